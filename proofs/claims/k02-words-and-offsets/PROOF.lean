import PyProof.Rows.All
import Wide.All
import OpenK.AllK
import Wide.FinOn
import HandS.ForMost
import HandS.IsInst
import HandS.Flow
import HandS.Style
import HandS.TupAny
import HandS.Star
import HandS.Walk
import HandS.Conv
import HandS.Strs
import HandS.SetKeys
import HandS.ForExc
import KE.GoesMore
import HandS.Zip
import HandS.DictComp
import HandS.More
import HandS.Defaults
import HandS.HeadHook1
import HandS.HeadHook2
import HandS.HeadHook3
import HandS.HeadHook4
import HandS.HeadEnd
import HandS.Head0
import HandS.Head1
import HandS.Head2
import HandS.EndBits
import PySem.Challenge.RW_stairwright_k02_words_and_offsets
set_option Elab.async false
set_option linter.all false
set_option maxRecDepth 100000
set_option maxHeartbeats 0
namespace J
open PySem L2

/-! ## values, cells -/
/-- a value of the program; its mutable parts lie in cells -/
inductive D where
  | non | bl (b : Bool) | int (i : Int) | str (s : Str) | tup (ds : List D) | rol (ds : List D) | cell (n : Nat)
  deriving Inhabited
mutual
def D.beq : D → D → Bool
  | .non, .non => true
  | .bl a, .bl b => a == b
  | .int a, .int b => a == b
  | .str a, .str b => decide (a = b)
  | .tup a, .tup b => D.beqs a b
  | .rol a, .rol b => D.beqs a b
  | .cell a, .cell b => a == b
  | _, _ => false
def D.beqs : List D → List D → Bool
  | [], [] => true
  | a :: r, b :: t => D.beq a b && D.beqs r t
  | _, _ => false
end
mutual
theorem D.beq_eq : ∀ (a b : D), D.beq a b = true → a = b
  | .non, b, h => by cases b <;> simp [D.beq] at h ⊢
  | .bl _, b, h => by cases b <;> simp [D.beq] at h ⊢; exact h
  | .int _, b, h => by cases b <;> simp [D.beq] at h ⊢; exact h
  | .str _, b, h => by cases b <;> simp [D.beq] at h ⊢; exact h
  | .tup xs, b, h => by cases b <;> simp [D.beq] at h ⊢; exact D.beqs_eq _ _ h
  | .rol xs, b, h => by cases b <;> simp [D.beq] at h ⊢; exact D.beqs_eq _ _ h
  | .cell _, b, h => by cases b <;> simp [D.beq] at h ⊢; exact h
theorem D.beqs_eq : ∀ (a b : List D), D.beqs a b = true → a = b
  | [], b, h => by cases b <;> simp [D.beqs] at h ⊢
  | x :: r, b, h => by
    cases b with
    | nil => simp [D.beqs] at h
    | cons y t =>
      simp only [D.beqs, Bool.and_eq_true] at h
      rw [D.beq_eq _ _ h.1, D.beqs_eq _ _ h.2]
end
mutual
theorem D.beq_rfl : ∀ (a : D), D.beq a a = true
  | .non => rfl
  | .bl _ => by simp [D.beq]
  | .int _ => by simp [D.beq]
  | .str _ => by simp [D.beq]
  | .tup xs => by simp [D.beq, D.beqs_rfl xs]
  | .rol xs => by simp [D.beq, D.beqs_rfl xs]
  | .cell _ => by simp [D.beq]
theorem D.beqs_rfl : ∀ (a : List D), D.beqs a a = true
  | [] => rfl
  | x :: r => by simp [D.beqs, D.beq_rfl x, D.beqs_rfl r]
end
instance : DecidableEq D := fun a b => if h : D.beq a b = true then isTrue (D.beq_eq a b h) else isFalse fun e => h (by rw [e]; exact D.beq_rfl b)
mutual
/-- no cell within -/
def D.pure : D → Bool
  | .tup ds => D.pures ds
  | .rol ds => D.pures ds
  | .cell _ => false
  | _ => true
def D.pures : List D → Bool
  | [] => true
  | d :: r => d.pure && D.pures r
end
mutual
def D.shift (n : Nat) : D → D
  | .tup ds => .tup (D.shifts n ds)
  | .rol ds => .rol (D.shifts n ds)
  | .cell m => .cell (n + m)
  | d => d
def D.shifts (n : Nat) : List D → List D
  | [] => []
  | d :: r => d.shift n :: D.shifts n r
end
inductive Cell where
  | lst (ds : List D)
  | dic (kvs : List (Key × D))
  | frd (kvs : List (Key × D))
  deriving DecidableEq
def Cell.shift (n : Nat) : Cell → Cell
  | .lst ds => .lst (D.shifts n ds)
  | .dic kvs => .dic (kvs.map fun p => (p.1, p.2.shift n))
  | .frd kvs => .frd (kvs.map fun p => (p.1, p.2.shift n))
abbrev Mem := List Cell
abbrev Rho := List (Option D)

/-! ## terms -/
inductive Bop where
  | add | sub | mul | fdiv | mod
inductive Cop where
  | eq | ne | lt | le | gt | ge | isn | isnn | isb | isnb | inn | nin
inductive Ty where
  | int | bool | str | tuple | list | dict
inductive Blt where
  | len | int | tuple | list | dict | isi (t : Ty)
inductive Mth where
  | append | extend | pop | index | join | get
inductive Tg where
  | nm (i : Nat) | tp (ts : List Tg)
/-- what of a dict is walked -/
inductive Wk where
  | keys | vals | items
inductive E where
  | var (i : Nat)
  | con (d : D)
  | glo (g : Nat)
  | gix (g : Nat) (e : E)
  | tup (es : List E)
  | lst (es : List E)
  | dis (es : List E)
  | star (e : E)
  | bin (o : Bop) (a b : E)
  | neg (a : E)
  | cmp (o : Cop) (a b : E)
  | cmp2 (o o' : Cop) (a b c : E)
  | nott (a : E)
  | andd (a b : E)
  | orr (a b : E)
  | ite (c a b : E)
  | call (f : Nat) (es : List E)
  | blt (b : Blt) (es : List E)
  | mth (m : Mth) (o : E) (es : List E)
  | ix (a i : E)
  | nop
  | sl (a lo hi : E)
  | comp (own : List Nat) (t : Tg) (it : E) (cs : List E) (e : E)
  | rng (es : List E)
  | enu (e : E)
  | zip (a b : E)
  | dcomp (own : List Nat) (t : Tg) (it : E) (cs : List E) (k v : E)
  | gget (g : Nat) (k d : E)
  | gin (neg : Bool) (g : Nat) (k : E)
  | gix2 (g : Nat) (k : E)
  | unk
inductive S where
  | asg (t : Tg) (e : E)
  | setx (o i e : E)
  | aug (i : Nat) (o : Bop) (e : E)
  | exp (e : E)
  | ret (e : E)
  | retn
  | iff (c : E) (a b : List S)
  | forr (t : Tg) (it : E) (b : List S)
  | whil (c : E) (b : List S)
  | ford (w : Wk) (t : Tg) (i : Nat) (b : List S)
  | brk | cont | pass
  | unk
inductive R (α : Type) where
  | ok (a : α) (m : Mem)
  | err (c : Nat) (as : List D) (m : Mem)
  | bad
/-- a mark that keeps rewriting from what comes after -/
inductive Dm {α : Type} (f : α) : Type where
  | mk
def R.bind {α β : Type} (r : R α) (f : α → Mem → R β) (_ : Dm f := .mk) : R β := match r with
  | .ok a m => f a m
  | .err c as m => .err c as m
  | .bad => .bad
def ofO {α : Type} : Option (α × Mem) → R α
  | some p => .ok p.1 p.2
  | none => .bad
def valO {α : Type} (M : Mem) : Option α → R α
  | some a => .ok a M
  | none => .bad

/-! ## values' operations -/
def big : Nat := 16777216
/-- the list at a cell -/
def lstAt (M : Mem) (n : Nat) : Option (List D) := match M[n]? with
  | some (.lst ds) => some ds
  | _ => none
def dicAt (M : Mem) (n : Nat) : Option (List (Key × D)) := match M[n]? with
  | some (.dic kvs) => some kvs
  | _ => none
def mulOk (a b : Int) : Bool := (decide (-(2 ^ 64) < b) && decide (b < 2 ^ 64)) || (decide (-(2 ^ 64) < a) && decide (a < 2 ^ 64))
def binD : Bop → D → D → Mem → Option (D × Mem)
  | .add, .int a, .int b, M => some (.int (a + b), M)
  | .add, .str a, .str b, M => if a.length + b.length ≤ big then some (.str (a ++ b), M) else none
  | .add, .tup a, .tup b, M => if a.length + b.length ≤ big then some (.tup (a ++ b), M) else none
  | .add, .cell a, .cell b, M => (lstAt M a).bind fun xs => (lstAt M b).bind fun ys => if xs.length + ys.length ≤ big then some (.cell M.length, M ++ [.lst (xs ++ ys)]) else none
  | .sub, .int a, .int b, M => some (.int (a - b), M)
  | .mul, .int a, .int b, M => if mulOk a b then some (.int (a * b), M) else none
  | .fdiv, .int a, .int b, M => if decide (0 < b) && decide (b < 1073741824) then some (.int (a / b), M) else none
  | .mod, .int a, .int b, M => if 0 < b then some (.int (a % b), M) else none
  | _, _, _, _ => none
mutual
def toP : D → PyData
  | .non => .none
  | .bl b => .bool b
  | .int i => .int i
  | .str s => .str s
  | .tup ds => .tuple (toPs ds)
  | .rol ds => .list (toPs ds)
  | .cell _ => .none
def toPs : List D → List PyData
  | [] => []
  | d :: r => toP d :: toPs r
end
/-- data for ==: no cells but lists of plain things on the outside -/
def toPM (M : Mem) : D → Option PyData
  | .cell n => (lstAt M n).bind fun ds => if D.pures ds then some (.list (toPs ds)) else none
  | d => if d.pure then some (toP d) else none
def eqD (M : Mem) : D → D → Option Bool
  | .int a, .int b => some (a == b)
  | .str a, .str b => some (decide (a = b))
  | x, y => (toPM M x).bind fun p => (toPM M y).bind fun q => if SeqAt.shaped p && SeqAt.shaped q then some (PyData.eqv p q) else none
def toKey : D → Option Key
  | .int i => some (.inl i)
  | .str s => some (.inr s)
  | _ => none
def flatD : D → Bool
  | .tup _ => false
  | .rol _ => false
  | .cell _ => false
  | _ => true
def eqF (x y : D) : Bool := PyData.eqv (toP x) (toP y)
/-- a written key's value -/
def lookK (k : Key) : List (Key × D) → Option D
  | [] => none
  | p :: r => if p.1 = k then some p.2 else lookK k r
def isNonD : D → Bool
  | .non => true
  | _ => false
def isBlD (b : Bool) : D → Bool
  | .bl a => a == b
  | _ => false
def inD (M : Mem) (x : D) : D → Option Bool
  | .tup ds => if flatD x && ds.all flatD then some (ds.any fun y => eqF y x) else none
  | .rol ds => if flatD x && ds.all flatD then some (ds.any fun y => eqF y x) else none
  | .cell n => match M[n]? with
    | some (.lst ds) => if flatD x && ds.all flatD then some (ds.any fun y => eqF y x) else none
    | some (.dic kvs) => (toKey x).map fun k => (lookK k kvs).isSome
    | some (.frd kvs) => (toKey x).map fun k => (lookK k kvs).isSome
    | none => none
  | _ => none
def cmpD : Cop → D → D → Mem → Option Bool
  | .eq, x, y, M => eqD M x y
  | .ne, x, y, M => (eqD M x y).map (!·)
  | .lt, .int a, .int b, _ => some (decide (a < b))
  | .le, .int a, .int b, _ => some (decide (a ≤ b))
  | .gt, .int a, .int b, _ => some (decide (b < a))
  | .ge, .int a, .int b, _ => some (decide (b ≤ a))
  | .isn, x, .non, _ => some (isNonD x)
  | .isnn, x, .non, _ => some (!isNonD x)
  | .isb, x, .bl b, _ => some (isBlD b x)
  | .isnb, x, .bl b, _ => some (!isBlD b x)
  | .inn, x, y, M => inD M x y
  | .nin, x, y, M => (inD M x y).map (!·)
  | _, _, _, _ => none
def tyD (M : Mem) : D → Option Ty
  | .non => none
  | .bl _ => some .bool
  | .int _ => some .int
  | .str _ => some .str
  | .tup _ => some .tuple
  | .rol _ => some .list
  | .cell n => match M[n]? with
    | some (.lst _) => some .list
    | some (.dic _) => some .dict
    | some (.frd _) => some .dict
    | none => none
def isiT : Option Ty → Ty → Bool
  | some .bool, .int => true
  | some .bool, .bool => true
  | some .int, .int => true
  | some .str, .str => true
  | some .tuple, .tuple => true
  | some .list, .list => true
  | some .dict, .dict => true
  | _, _ => false
def isiD (M : Mem) (t : Ty) : D → Option Bool
  | .cell n => if n < M.length then some (isiT (tyD M (.cell n)) t) else none
  | d => some (isiT (tyD M d) t)
def truD (M : Mem) : D → Option Bool
  | .non => some false
  | .bl b => some b
  | .int i => some (i != 0)
  | .str s => if s.length ≤ big then some (s.length != 0) else none
  | .tup ds => some (!ds.isEmpty)
  | .rol ds => some (!ds.isEmpty)
  | .cell n => match M[n]? with
    | some (.lst ds) => some (!ds.isEmpty)
    | some (.dic kvs) => some (!kvs.isEmpty)
    | some (.frd _) => none
    | none => none
def negD : D → Option D
  | .int i => some (.int (-i))
  | _ => none
def putKD (k : Key) (d : D) (kvs : List (Key × D)) : List (Key × D) :=
  if (kvs.any fun p => decide (p.1 = k)) = true then kvs.map (fun p => if p.1 = k then (p.1, d) else p) else kvs ++ [(k, d)]
def ixD (M : Mem) : D → D → Option D
  | .tup ds, .int i => atI ds i
  | .rol ds, .int i => atI ds i
  | .cell n, i => match M[n]? with
    | some (.lst ds) => match i with
      | .int j => atI ds j
      | _ => none
    | some (.dic kvs) => (toKey i).bind fun k => lookK k kvs
    | some (.frd kvs) => (toKey i).bind fun k => lookK k kvs
    | none => none
  | .str s, .int i => if s.length ≤ big then (atI s.cps.toList i).map fun c => .str ⟨#[c]⟩ else none
  | _, _ => none
def cutD {α : Type} (xs : List α) (lo hi : Option Int) : List α := (xs.drop (HT.sIx xs.length 0 lo)).take (HT.sIx xs.length xs.length hi - HT.sIx xs.length 0 lo)
def slD (M : Mem) (lo hi : Option Int) : D → Option (D × Mem)
  | .tup ds => some (.tup (cutD ds lo hi), M)
  | .rol ds => some (.cell M.length, M ++ [.lst (cutD ds lo hi)])
  | .cell n => (lstAt M n).map fun ds => (.cell M.length, M ++ [.lst (cutD ds lo hi)])
  | _ => none
def setD (M : Mem) : D → D → D → Option Mem
  | .cell n, i, d => match M[n]? with
    | some (.lst ds) => match i with
      | .int j => (ixN ds.length j).map fun k => M.set n (.lst (ds.set k d))
      | _ => none
    | some (.dic kvs) => (toKey i).bind fun k => if kvs.length < big then some (M.set n (.dic (putKD k d kvs))) else none
    | _ => none
  | _, _, _ => none
def pairsD : List D → Option (List (Key × D))
  | [] => some []
  | .tup [k, v] :: r => (toKey k).bind fun k => (pairsD r).map fun t => (k, v) :: t
  | _ => none
def pairs2 : List D → Option (List (Key × D))
  | [] => some []
  | k :: v :: r => (toKey k).bind fun k => (pairs2 r).map fun t => (k, v) :: t
  | _ => none
def mergeD (acc more : List (Key × D)) : List (Key × D) := more.foldl (fun acc p => putKD p.1 p.2 acc) acc
def bltD : Blt → List D → Mem → Option (D × Mem)
  | .len, [.tup ds], M => some (.int ds.length, M)
  | .len, [.rol ds], M => some (.int ds.length, M)
  | .len, [.str s], M => if s.length ≤ big then some (.int s.length, M) else none
  | .len, [.cell n], M => (match M[n]? with
    | some (.lst ds) => some (D.int ds.length)
    | some (.dic kvs) => some (D.int kvs.length)
    | some (.frd _) => none
    | none => none).map fun d => (d, M)
  | .int, [.int i], M => some (.int i, M)
  | .int, [.bl b], M => some (.int (if b then 1 else 0), M)
  | .tuple, [.tup ds], M => some (.tup ds, M)
  | .tuple, [.rol ds], M => some (.tup ds, M)
  | .tuple, [.cell n], M => (lstAt M n).map fun ds => (.tup ds, M)
  | .list, [.tup ds], M => some (.cell M.length, M ++ [.lst ds])
  | .list, [.rol ds], M => some (.cell M.length, M ++ [.lst ds])
  | .list, [.cell n], M => (lstAt M n).map fun ds => (.cell M.length, M ++ [.lst ds])
  | .dict, [.cell n], M => (lstAt M n).bind fun ds => (pairsD ds).bind fun kvs => if kvs.length ≤ big then some (.cell M.length, M ++ [.dic (mergeD [] kvs)]) else none
  | .isi t, [d], M => (isiD M t d).map fun b => (.bl b, M)
  | _, _, _ => none
def strsD : List D → Option (List Str)
  | [] => some []
  | .str s :: r => (strsD r).map fun t => s :: t
  | _ => none
def idxD (x : D) : List D → Option Nat
  | [] => none
  | y :: r => if eqF y x then some 0 else (idxD x r).map (· + 1)
def gixD : D → D → Option D
  | .tup ds, .str z => (strsD ds).bind fun _ => (idxD (.str z) ds).map fun j => .int j
  | _, _ => none
def isLst (M : Mem) : D → Bool
  | .cell n => (lstAt M n).isSome
  | _ => false
def isDic (M : Mem) : D → Bool
  | .cell n => (dicAt M n).isSome
  | _ => false
def isStr : D → Bool
  | .str _ => true
  | _ => false
def mthOk (M : Mem) (m : Mth) (x : D) : Bool := match m with
  | .join => isStr x
  | .get => isDic M x
  | _ => isLst M x
def mthD : Mth → D → List D → Mem → Option (D × Mem)
  | .append, .cell n, [d], M => (lstAt M n).bind fun ds => if ds.length < big then some (.non, M.set n (.lst (ds ++ [d]))) else none
  | .extend, .cell n, [.tup es], M => (lstAt M n).bind fun ds => if ds.length + es.length ≤ big then some (.non, M.set n (.lst (ds ++ es))) else none
  | .extend, .cell n, [.cell m], M => (lstAt M n).bind fun ds => (lstAt M m).bind fun es => if ds.length + es.length ≤ big then some (.non, M.set n (.lst (ds ++ es))) else none
  | .pop, .cell n, [], M => (lstAt M n).bind fun ds => ds[ds.length - 1]?.map fun d => (d, M.set n (.lst ds.dropLast))
  | .index, .cell n, [x], M => (lstAt M n).bind fun ds => if flatD x && ds.all flatD then (idxD x ds).map fun j => (.int j, M) else none
  | .join, .str a, [x], M => ((match x with
    | .tup ds => some ds
    | .rol ds => some ds
    | .cell n => lstAt M n
    | _ => none).bind strsD).bind fun (ys : List Str) => if (ys.map fun (z : Str) => z.length).sum + ys.length * a.length ≤ big then some (.str (Txt.join a ys), M) else none
  | .get, .cell n, [k], M => (dicAt M n).bind fun kvs => (toKey k).map fun k => ((lookK k kvs).getD .non, M)
  | .get, .cell n, [k, d], M => (dicAt M n).bind fun kvs => (toKey k).map fun k => ((lookK k kvs).getD d, M)
  | _, _, _, _ => none

/-! ## the run of terms -/
mutual
def asgT : Tg → D → Rho → Option Rho
  | .nm i, d, ρ => some (ρ.set i (some d))
  | .tp ts, d, ρ => match d with
    | .tup ds => asgTs ts ds ρ
    | _ => none
def asgTs : List Tg → List D → Rho → Option Rho
  | [], ds, ρ => match ds with
    | [] => some ρ
    | _ => none
  | t :: ts, ds, ρ => match ds with
    | d :: ds => (asgT t d ρ).bind fun ρ => asgTs ts ds ρ
    | _ => none
end
def rngD (lo : Int) : Nat → List D
  | 0 => []
  | n + 1 => .int lo :: rngD (lo + 1) n
def in62 (i : Int) : Bool := decide (-(2 ^ 62) ≤ i) && decide (i < 2 ^ 62)
def chk (M : Mem) (srcs : List (Nat × Cell)) : Bool := srcs.all fun p => decide (M[p.1]? = some p.2)
/-- what is walked: the lists that have to stay, the items -/
abbrev Its := List (Nat × Cell) × List D
def itD (M : Mem) : D → Option Its
  | .tup ds => some ([], ds)
  | .rol ds => some ([], ds)
  | .cell n => (lstAt M n).map fun ds => ([(n, .lst ds)], ds)
  | _ => none
def enuD (k : Nat) : List D → List D
  | [] => []
  | d :: r => .tup [.int k, d] :: enuD (k + 1) r
def zipD : List D → List D → List D
  | a :: r, b :: t => .tup [a, b] :: zipD r t
  | _, _ => []
def wipeR (ρ : Rho) : List Nat → Rho
  | [] => ρ
  | v :: vs => (wipeR ρ vs).set v none
def noErr {α : Type} : R α → R α
  | .err _ _ _ => .bad
  | r => r
def zipI (M : Mem) : D → D → Option Its
  | .tup a, .tup b => some ([], zipD a b)
  | .tup _, _ => none
  | _, .tup _ => none
  | x, y => (itD M x).bind fun s => (itD M y).map fun t => (s.1 ++ t.1, zipD s.2 t.2)
def keyD : Key → D
  | .inl i => .int i
  | .inr s => .str s
def strK : D → Option Str
  | .str s => some s
  | _ => none
/-- a table of the top: its pairs -/
def gdO {α : Type} (con : Nat → Option D) (g : Nat) (f : List (Key × D) → Option α) : Option α := match con g with
  | some (.tup ds) => (pairsD ds).bind f
  | _ => none
def wkD (w : Wk) (kvs : List (Key × D)) : List D := match w with
  | .keys => kvs.map fun p => keyD p.1
  | .vals => kvs.map fun p => p.2
  | .items => kvs.map fun p => .tup [keyD p.1, p.2]
/-- a pair of a dict's comprehension -/
def pairV (fk fv : Rho → Mem → R D) : Rho → Mem → R D := fun ρ M => (fk ρ M).bind fun x M => (fv ρ M).bind fun y M => match toKey x with
  | some _ => .ok (.tup [x, y]) M
  | none => .bad
/-- a comprehension's turns -/
def compL (asg : D → Option Rho) (tst : Rho → Mem → R Bool) (elt : Rho → Mem → R D) (srcs : List (Nat × Cell)) : List D → List D → Mem → R (List D)
  | [], acc, M => if chk M srcs then .ok acc M else .bad
  | d :: r, acc, M => if chk M srcs then (match asg d with
    | none => .bad
    | some ρ => (tst ρ M).bind fun b M => if b then (elt ρ M).bind fun x M => if acc.length < big then compL asg tst elt srcs r (acc ++ [x]) M else .bad else compL asg tst elt srcs r acc M) else .bad
def rngI (M : Mem) : List D → R Its
  | [.int n] => if in62 n then .ok ([], rngD 0 n.toNat) M else .bad
  | [.int a, .int b] => if in62 a && in62 b then .ok ([], rngD a (b - a).toNat) M else .bad
  | _ => .bad
def partD : D → Option (Option Int)
  | .int i => some (some i)
  | _ => none
def starD (M : Mem) : D → Option (List D)
  | .tup ds => some ds
  | .rol ds => some ds
  | .cell n => lstAt M n
  | _ => none
def isTupO : Option D → Bool
  | some (.tup _) => true
  | _ => false
/-- a dict's display: its pairs into the new dict at n -/
def disK (n : Nat) (ds : List D) (M : Mem) : R D := match dicAt M n with
  | some [] => (match pairs2 ds with
    | some kvs => if kvs.length ≤ 15 then .ok (.cell n) (M.set n (.dic (mergeD [] kvs))) else .bad
    | none => .bad)
  | _ => .bad
/-- what a term does: its value, as a test, as a part of a slice, walked, among arguments -/
structure Sm where
  v : Rho → Mem → R D
  t : Rho → Mem → R Bool
  p : Rho → Mem → R (Option Int)
  i : Rho → Mem → R Its
  s : Rho → Mem → R (List D)
def mkS (v : Rho → Mem → R D) : Sm where
  v := v
  t := fun ρ M => (v ρ M).bind fun x M => valO M (truD M x)
  p := fun ρ M => (v ρ M).bind fun x M => valO M (partD x)
  i := fun ρ M => (v ρ M).bind fun x M => valO M (itD M x)
  s := fun ρ M => (v ρ M).bind fun x M => .ok [x] M
def badS : Sm := ⟨fun _ _ => .bad, fun _ _ => .bad, fun _ _ => .bad, fun _ _ => .bad, fun _ _ => .bad⟩
mutual
def evX (call : Nat → List D → Mem → R D) (con : Nat → Option D) : E → Sm
  | .var i => mkS fun ρ M => match ρ[i]? with
    | some (some d) => .ok d M
    | _ => .bad
  | .con d => mkS fun _ M => .ok d M
  | .glo g => mkS fun _ M => valO M (con g)
  | .gix g e => mkS fun ρ M => if isTupO (con g) then ((evX call con e).v ρ M).bind fun x M => valO M ((con g).bind fun t => gixD t x) else .bad
  | .tup es => mkS fun ρ M => (evEs call con es ρ M).bind fun ds M => if ds.length ≤ big then .ok (.tup ds) M else .bad
  | .lst es => mkS fun ρ M => (evEs call con es ρ M).bind fun ds M => if ds.length ≤ big then .ok (.cell M.length) (M ++ [.lst ds]) else .bad
  | .star e => { badS with s := fun ρ M => ((evX call con e).v ρ M).bind fun x M => valO M (starD M x) }
  | .bin o a b => mkS fun ρ M => ((evX call con a).v ρ M).bind fun x M => ((evX call con b).v ρ M).bind fun y M => ofO (binD o x y M)
  | .neg a => mkS fun ρ M => ((evX call con a).v ρ M).bind fun x M => valO M (negD x)
  | .cmp o a b => mkS fun ρ M => ((evX call con a).v ρ M).bind fun x M => ((evX call con b).v ρ M).bind fun y M => valO M ((cmpD o x y M).map .bl)
  | .cmp2 o o' a b c => mkS fun ρ M => ((evX call con a).v ρ M).bind fun x M => ((evX call con b).v ρ M).bind fun y M => (valO M (cmpD o x y M)).bind fun k M => if k then ((evX call con c).v ρ M).bind fun z M => valO M ((cmpD o' y z M).map .bl) else .ok (.bl false) M
  | .nott a => { mkS (fun ρ M => ((evX call con a).v ρ M).bind fun x M => valO M ((truD M x).map fun k => .bl (!k))) with
      t := fun ρ M => ((evX call con a).t ρ M).bind fun k M => .ok (!k) M }
  | .andd a b => { mkS (fun ρ M => ((evX call con a).v ρ M).bind fun x M => (valO M (truD M x)).bind fun k M => if k then (evX call con b).v ρ M else .ok x M) with
      t := fun ρ M => ((evX call con a).t ρ M).bind fun k M => if k then (evX call con b).t ρ M else .ok false M }
  | .orr a b => { mkS (fun ρ M => ((evX call con a).v ρ M).bind fun x M => (valO M (truD M x)).bind fun k M => if k then .ok x M else (evX call con b).v ρ M) with
      t := fun ρ M => ((evX call con a).t ρ M).bind fun k M => if k then .ok true M else (evX call con b).t ρ M }
  | .ite c a b => { mkS (fun ρ M => ((evX call con c).t ρ M).bind fun k M => if k then (evX call con a).v ρ M else (evX call con b).v ρ M) with
      t := fun ρ M => ((evX call con c).t ρ M).bind fun k M => if k then (evX call con a).t ρ M else (evX call con b).t ρ M }
  | .call f es => mkS fun ρ M => (evEs call con es ρ M).bind fun ds M => call f ds M
  | .blt b es => mkS fun ρ M => (evEs call con es ρ M).bind fun ds M => ofO (bltD b ds M)
  | .mth m o es => mkS fun ρ M => ((evX call con o).v ρ M).bind fun x M => if mthOk M m x then (evEs call con es ρ M).bind fun ds M => ofO (mthD m x ds M) else .bad
  | .ix a i => mkS fun ρ M => ((evX call con a).v ρ M).bind fun x M => ((evX call con i).v ρ M).bind fun y M => valO M (ixD M x y)
  | .nop => { badS with p := fun _ M => .ok none M }
  | .sl a lo hi => mkS fun ρ M => ((evX call con a).v ρ M).bind fun x M => ((evX call con lo).p ρ M).bind fun l M => ((evX call con hi).p ρ M).bind fun h M => ofO (slD M l h x)
  | .comp own t it cs e => mkS fun ρ M => ((evX call con it).i ρ M).bind fun its M => (noErr (compL (fun d => asgT t d (wipeR ρ own)) (evCs call con cs) (evX call con e).v its.1 its.2 [] M)).bind fun ds M => .ok (.cell M.length) (M ++ [.lst ds])
  | .rng es => { badS with i := fun ρ M => (evEs call con es ρ M).bind fun ds M => rngI M ds }
  | .enu e => { badS with i := fun ρ M => ((evX call con e).v ρ M).bind fun x M => (valO M (itD M x)).bind fun s M => .ok (s.1, enuD 0 s.2) M }
  | .zip a b => { badS with i := fun ρ M => ((evX call con a).v ρ M).bind fun x M => ((evX call con b).v ρ M).bind fun y M => valO M (zipI M x y) }
  | .dcomp own t it cs k v => mkS fun ρ M => ((evX call con it).i ρ M).bind fun its M => (noErr (compL (fun d => asgT t d (wipeR ρ own)) (evCs call con cs) (pairV (evX call con k).v (evX call con v).v) its.1 its.2 [] M)).bind fun ds M => match pairsD ds with
    | some kvs => .ok (.cell M.length) (M ++ [.dic (mergeD [] kvs)])
    | none => .bad
  | .gget g k d => mkS fun ρ M => ((evX call con k).v ρ M).bind fun x M => ((evX call con d).v ρ M).bind fun y M => valO M (gdO con g fun kvs => (strK x).map fun s => (lookK (.inr s) kvs).getD y)
  | .gin neg g k => mkS fun ρ M => ((evX call con k).v ρ M).bind fun x M => valO M (gdO con g fun kvs => (strK x).map fun s => .bl ((lookK (.inr s) kvs).isSome != neg))
  | .gix2 g k => mkS fun ρ M => ((evX call con k).v ρ M).bind fun x M => valO M (gdO con g fun kvs => (strK x).bind fun s => lookK (.inr s) kvs)
  | .unk => badS
  | .dis es => mkS fun ρ M => (evEs call con es ρ (M ++ [.dic []])).bind fun ds M1 => disK M.length ds M1
def evEs (call : Nat → List D → Mem → R D) (con : Nat → Option D) : List E → Rho → Mem → R (List D)
  | [] => fun _ M => .ok [] M
  | e :: es => fun ρ M => ((evX call con e).s ρ M).bind fun xs M => (evEs call con es ρ M).bind fun ys M => .ok (xs ++ ys) M
def evCs (call : Nat → List D → Mem → R D) (con : Nat → Option D) : List E → Rho → Mem → R Bool
  | [] => fun _ M => .ok true M
  | c :: cs => fun ρ M => ((evX call con c).t ρ M).bind fun k M => if k then evCs call con cs ρ M else .ok false M
end
def evE (call : Nat → List D → Mem → R D) (con : Nat → Option D) (e : E) : Rho → Mem → R D := (evX call con e).v
def evT (call : Nat → List D → Mem → R D) (con : Nat → Option D) (e : E) : Rho → Mem → R Bool := (evX call con e).t
def evP (call : Nat → List D → Mem → R D) (con : Nat → Option D) (e : E) : Rho → Mem → R (Option Int) := (evX call con e).p
def evI (call : Nat → List D → Mem → R D) (con : Nat → Option D) (e : E) : Rho → Mem → R Its := (evX call con e).i
/-- how a statement ends -/
inductive F where
  | nx (ρ : Rho) | rt (d : D) | bk (ρ : Rho) | ct (ρ : Rho) | xc (c : Nat) (as : List D) (ρ : Rho)
def bindS {α : Type} (ρ : Rho) (r : R α) (f : α → Mem → R F) (_ : Dm f := .mk) : R F := match r with
  | .ok a m => f a m
  | .err c as m => .ok (.xc c as ρ) m
  | .bad => .bad
/-- a statement, then others -/
def seqS (r : R F) (f : Rho → Mem → R F) (_ : Dm f := .mk) : R F := match r with
  | .ok (.nx ρ) m => f ρ m
  | r => r
def forL (asg : D → Rho → Option Rho) (body : Rho → Mem → R F) (srcs : List (Nat × Cell)) : List D → Rho → Mem → R F
  | [], ρ, M => if chk M srcs then .ok (.nx ρ) M else .bad
  | d :: r, ρ, M => if chk M srcs then (match asg d ρ with
    | none => .bad
    | some ρ => match body ρ M with
      | .ok (.nx ρ) M => forL asg body srcs r ρ M
      | .ok (.ct ρ) M => forL asg body srcs r ρ M
      | .ok (.bk ρ) M => .ok (.nx ρ) M
      | r => r) else .bad
def whlL (tst : Rho → Mem → R Bool) (body : Rho → Mem → R F) : Nat → Rho → Mem → R F
  | 0, _, _ => .bad
  | n + 1, ρ, M => bindS ρ (tst ρ M) fun k M => if k then (match body ρ M with
      | .ok (.nx ρ) M => whlL tst body n ρ M
      | .ok (.ct ρ) M => whlL tst body n ρ M
      | .ok (.bk ρ) M => .ok (.nx ρ) M
      | r => r) else .ok (.nx ρ) M
/-- a dict that was walked may be written again -/
def unlS (n : Nat) (kvs : List (Key × D)) : R F → R F
  | .ok f M => (match f with
    | .xc _ _ _ => .bad
    | f => .ok f (M.set n (.dic kvs)))
  | _ => .bad
def augD : Bop → D → D → Mem → Option (D × Mem)
  | .add, .cell a, .cell b, M => (lstAt M a).bind fun xs => (lstAt M b).bind fun ys => if xs.length + ys.length ≤ big then some (.cell a, M.set a (.lst (xs ++ ys))) else none
  | .add, .int a, .int b, M => some (.int (a + b), M)
  | .add, .str a, .str b, M => if a.length + b.length ≤ big then some (.str (a ++ b), M) else none
  | .sub, .int a, .int b, M => some (.int (a - b), M)
  | _, _, _, _ => none
def fuel : Nat := 1000000
mutual
def exS (call : Nat → List D → Mem → R D) (con : Nat → Option D) : S → Rho → Mem → R F
  | .asg t e, ρ, M => bindS ρ (evE call con e ρ M) fun d M => match asgT t d ρ with
    | some ρ => .ok (.nx ρ) M
    | none => .bad
  | .setx o i e, ρ, M => bindS ρ (evE call con e ρ M) fun d M => bindS ρ (evE call con o ρ M) fun x M => bindS ρ (evE call con i ρ M) fun y M => match setD M x y d with
    | some M => .ok (.nx ρ) M
    | none => .bad
  | .aug i o e, ρ, M => match ρ[i]? with
    | some (some x) => bindS ρ (evE call con e ρ M) fun y M => match augD o x y M with
      | some p => .ok (.nx (ρ.set i (some p.1))) p.2
      | none => .bad
    | _ => .bad
  | .exp e, ρ, M => bindS ρ (evE call con e ρ M) fun _ M => .ok (.nx ρ) M
  | .ret e, ρ, M => bindS ρ (evE call con e ρ M) fun d M => .ok (.rt d) M
  | .retn, _, M => .ok (.rt .non) M
  | .iff c a b, ρ, M => bindS ρ (evT call con c ρ M) fun k M => if k then exSs call con a ρ M else exSs call con b ρ M
  | .forr t it b, ρ, M => bindS ρ (evI call con it ρ M) fun its M => forL (asgT t) (exSs call con b) its.1 its.2 ρ M
  | .whil c b, ρ, M => whlL (evT call con c) (exSs call con b) fuel ρ M
  | .ford w t i b, ρ, M => match ρ[i]? with
    | some (some (.cell n)) => (match M[n]? with
      | some (.dic kvs) => unlS n kvs (forL (asgT t) (exSs call con b) [] (wkD w kvs) ρ (M.set n (.frd kvs)))
      | _ => .bad)
    | _ => .bad
  | .unk, _, _ => .bad
  | .brk, ρ, M => .ok (.bk ρ) M
  | .cont, ρ, M => .ok (.ct ρ) M
  | .pass, ρ, M => .ok (.nx ρ) M
def exSs (call : Nat → List D → Mem → R D) (con : Nat → Option D) : List S → Rho → Mem → R F
  | [], ρ, M => .ok (.nx ρ) M
  | s :: r, ρ, M => seqS (exS call con s ρ M) fun ρ M => exSs call con r ρ M
end
structure Fn where
  nps : Nat
  nls : Nat
  body : List S
structure Pg where
  fn : Nat → Option Fn
  con : Nat → Option D
mutual
/-- the cells that a value names -/
def D.refs : D → List Nat
  | .tup ds => D.refsL ds
  | .rol ds => D.refsL ds
  | .cell n => [n]
  | _ => []
def D.refsL : List D → List Nat
  | [] => []
  | d :: r => d.refs ++ D.refsL r
end
def refsK : List (Key × D) → List Nat
  | [] => []
  | p :: r => p.2.refs ++ refsK r
def Cell.refs : Cell → List Nat
  | .lst ds => D.refsL ds
  | .dic kvs => refsK kvs
  | .frd kvs => refsK kvs
/-- the cells that are reached, in the order in which they are found -/
def reach (M : Mem) : Nat → List Nat → List Nat → List Nat
  | 0, _, acc => acc
  | _ + 1, [], acc => acc
  | n + 1, x :: t, acc => if acc.contains x then reach M n t acc else match M[x]? with
    | some c => reach M n (c.refs ++ t) (acc ++ [x])
    | none => acc
mutual
def D.ren (f : Nat → Option Nat) : D → Option D
  | .tup ds => (D.rens f ds).map .tup
  | .rol ds => (D.rens f ds).map .rol
  | .cell n => (f n).map .cell
  | .non => some .non
  | .bl b => some (.bl b)
  | .int i => some (.int i)
  | .str s => some (.str s)
def D.rens (f : Nat → Option Nat) : List D → Option (List D)
  | [] => some []
  | d :: r => (d.ren f).bind fun e => (D.rens f r).map fun t => e :: t
end
def renK (f : Nat → Option Nat) : List (Key × D) → Option (List (Key × D))
  | [] => some []
  | p :: r => (p.2.ren f).bind fun e => (renK f r).map fun t => (p.1, e) :: t
def Cell.ren (f : Nat → Option Nat) : Cell → Option Cell
  | .lst ds => (D.rens f ds).map .lst
  | .dic kvs => (renK f kvs).map .dic
  | .frd kvs => (renK f kvs).map .frd
def posL : List Nat → Nat → Option Nat
  | [], _ => none
  | a :: r, n => if a == n then some 0 else (posL r n).map (· + 1)
/-- some of the memory's cells, renamed -/
def subM (M : Mem) (f : Nat → Option Nat) : List Nat → Option Mem
  | [] => some []
  | n :: r => (M[n]?).bind fun c => (c.ren f).bind fun c => (subM M f r).map fun t => c :: t
def setAll : Mem → List Nat → List Cell → Mem
  | M, n :: r, c :: t => setAll (M.set n c) r t
  | M, _, _ => M
def walkF : Nat := 1000000
/-- what is new and reached behind a call: from the value, then from what was there -/
def newC (n : Nat) (ds : List D) (M1 : Mem) : List Nat := (reach M1 walkF (D.refsL ds ++ List.range n) []).filter fun j => decide (n ≤ j)
def backG (live nw : List Nat) (m : Nat) (j : Nat) : Option Nat := if j < live.length then live[j]? else (posL nw j).map (m + ·)
def leave (live : List Nat) (ds : List D) (M M1 : Mem) : Option (List D × Mem) :=
  let nw := newC live.length ds M1
  let g := backG live nw M.length
  (D.rens g ds).bind fun ds' => (subM M1 g (List.range live.length)).bind fun ol => (subM M1 g nw).map fun nl => (ds', setAll M live ol ++ nl)
/-- a call runs in a memory of its own: the cells that its arguments reach -/
def callP (run : Nat → List D → Mem → R D) (f : Nat) (ds : List D) (M : Mem) : R D :=
  let live := reach M walkF (D.refsL ds) []
  match D.rens (posL live) ds, subM M (posL live) live with
  | some ds0, some M0 => (match run f ds0 M0 with
    | .ok d M1 => (match leave live [d] M M1 with
      | some ([d], M2) => .ok d M2
      | _ => .bad)
    | .err c as M1 => if D.pures as then (match leave live [] M M1 with
      | some (_, M2) => .err c as M2
      | none => .bad) else .bad
    | .bad => .bad)
  | _, _ => .bad
def runF (G : Pg) : Nat → Nat → List D → Mem → R D
  | 0, _, _, _ => .bad
  | k + 1, f, ds, M => match G.fn f with
    | none => .bad
    | some fn => if ds.length = fn.nps then (match exSs (callP (runF G k)) G.con fn.body (ds.map some ++ List.replicate (fn.nls - fn.nps) none) M with
      | .ok (.nx _) M => .ok .non M
      | .ok (.rt d) M => .ok d M
      | .ok (.xc c as _) M => .err c as M
      | _ => .bad) else .bad
end J

namespace J
open PySem L2
/-! ## what stands where -/
/-- a list that never changes -/
def SqF (K : PySem.W.Frag) (H : Hp) (a : Addr) (xs : List V) : Prop :=
  (∃ o, H a = some (.frz o (.lst xs))) ∨
    ∃ (o : Obj) (its : Array Value) (n : Nat), K.lookup a = some o ∧ o.cls = .type "list" ∧ o.dict = none ∧ o.data = .seq its n ∧ its.size ≤ sizeLine ∧ Vals xs its.toList
theorem SqF.l {K : PySem.W.Frag} {H : Hp} {a : Addr} {xs : List V} (h : SqF K H a xs) : SqL K H a xs := by
  rcases h with ⟨o, h⟩ | h
  · exact .inl (.inr ⟨o, h⟩)
  · exact .inr h
mutual
def Rep (K : PySem.W.Frag) (ι : List Addr) (H : Hp) : D → V → Prop
  | .non, v => v = .non
  | .bl b, v => v = .bl b
  | .int i, v => v = .int i
  | .str s, v => v = .str s
  | .tup ds, v => ∃ a vs, v = .ref a ∧ SqT K H a vs ∧ Reps K ι H ds vs
  | .rol ds, v => ∃ a vs, v = .ref a ∧ SqF K H a vs ∧ Reps K ι H ds vs
  | .cell n, v => ∃ a, v = .ref a ∧ ι[n]? = some a
def Reps (K : PySem.W.Frag) (ι : List Addr) (H : Hp) : List D → List V → Prop
  | [], vs => vs = []
  | d :: r, vs => ∃ v t, vs = v :: t ∧ Rep K ι H d v ∧ Reps K ι H r t
end
def RepKs (K : PySem.W.Frag) (ι : List Addr) (H : Hp) : List (Key × D) → List (Key × V) → Prop
  | [], vs => vs = []
  | p :: r, vs => ∃ v t, vs = (p.1, v) :: t ∧ Rep K ι H p.2 v ∧ RepKs K ι H r t
def CellRep (K : PySem.W.Frag) (ι : List Addr) (H : Hp) (a : Addr) : Cell → Prop
  | .lst ds => ∃ vs, H a = some (.lst vs) ∧ Reps K ι H ds vs
  | .dic kvs => ∃ vs, H a = some (.dK vs) ∧ RepKs K ι H kvs vs
  | .frd kvs => ∃ o vs, H a = some (.frz o (.dK vs)) ∧ RepKs K ι H kvs vs
structure RepM (K : PySem.W.Frag) (ι : List Addr) (H : Hp) (M : Mem) : Prop where
  len : ι.length = M.length
  nd : ι.Nodup
  at_ : ∀ (n : Nat) (c : Cell), M[n]? = some c → ∃ a, ι[n]? = some a ∧ CellRep K ι H a c
structure RepRho (K : PySem.W.Frag) (ι : List Addr) (H : Hp) (ρ : Rho) (σ : L2.St) : Prop where
  len : ρ.length = σ.length
  at_ : ∀ (i : Nat) (d : D), ρ[i]? = some (some d) → ∃ v, σ[i]? = some (some v) ∧ Rep K ι H d v
structure Step (K : PySem.W.Frag) (ι : List Addr) (H : Hp) (ι' : List Addr) (H' : Hp) : Prop where
  pre : ∃ t, ι' = ι ++ t ∧ ∀ a ∈ t, H a = none
  fr : ∀ a o, H a = some o → a ∉ ι → H' a = some o
  dom : ∀ a, H' a = none → H a = none
  tups : ∀ a vs, SqT K H a vs → SqT K H' a vs
  frzs : ∀ a vs, SqF K H a vs → SqF K H' a vs
  lock : ∀ a o u, H a = some (.frz o u) → H' a = some (.frz o u)
section
variable {K : PySem.W.Frag} {ι ι' ι'' : List Addr} {H H' H'' : Hp} {M M' : Mem} {ρ : Rho} {σ : L2.St}
theorem Step.refl : Step K ι H ι H := ⟨⟨[], by simp, by simp⟩, fun _ _ h _ => h, fun _ h => h, fun _ _ h => h, fun _ _ h => h, fun _ _ _ h => h⟩
theorem Step.trans (a : Step K ι H ι' H') (b : Step K ι' H' ι'' H'') : Step K ι H ι'' H'' := by
  obtain ⟨t, e, n⟩ := a.pre
  obtain ⟨t', e', n'⟩ := b.pre
  refine ⟨⟨t ++ t', by rw [e', e, List.append_assoc], fun x hx => ?_⟩, fun x o h hn => ?_, fun x h => a.dom x (b.dom x h), fun x vs h => b.tups x vs (a.tups x vs h), fun x vs h => b.frzs x vs (a.frzs x vs h), fun x o u h => b.lock x o u (a.lock x o u h)⟩
  · rcases List.mem_append.mp hx with h | h
    · exact n x h
    · exact a.dom x (n' x h)
  · refine b.fr x o (a.fr x o h hn) ?_
    rw [e]
    intro hm
    rcases List.mem_append.mp hm with z | z
    · exact hn z
    · rw [n x z] at h; cases h
theorem Step.get (a : Step K ι H ι' H') {n : Nat} {x : Addr} (h : ι[n]? = some x) : ι'[n]? = some x := by
  obtain ⟨t, e, _⟩ := a.pre
  rw [e, List.getElem?_append_left (List.getElem?_eq_some_iff.mp h).1]
  exact h
mutual
theorem Rep.mono (st : Step K ι H ι' H') : ∀ (d : D) (v : V), Rep K ι H d v → Rep K ι' H' d v
  | .non, v, h => by simpa [Rep] using h
  | .bl _, v, h => by simpa [Rep] using h
  | .int _, v, h => by simpa [Rep] using h
  | .str _, v, h => by simpa [Rep] using h
  | .tup ds, v, h => by
    simp only [Rep] at h ⊢
    obtain ⟨a, vs, e, q, r⟩ := h
    exact ⟨a, vs, e, st.tups a vs q, Reps.mono st ds vs r⟩
  | .rol ds, v, h => by
    simp only [Rep] at h ⊢
    obtain ⟨a, vs, e, q, r⟩ := h
    exact ⟨a, vs, e, st.frzs a vs q, Reps.mono st ds vs r⟩
  | .cell n, v, h => by
    simp only [Rep] at h ⊢
    obtain ⟨a, e, q⟩ := h
    exact ⟨a, e, st.get q⟩
theorem Reps.mono (st : Step K ι H ι' H') : ∀ (ds : List D) (vs : List V), Reps K ι H ds vs → Reps K ι' H' ds vs
  | [], vs, h => by simpa [Reps] using h
  | d :: r, vs, h => by
    simp only [Reps] at h ⊢
    obtain ⟨v, t, e, q, q'⟩ := h
    exact ⟨v, t, e, Rep.mono st d v q, Reps.mono st r t q'⟩
end
theorem RepKs.mono (st : Step K ι H ι' H') : ∀ (ds : List (Key × D)) (vs : List (Key × V)), RepKs K ι H ds vs → RepKs K ι' H' ds vs
  | [], vs, h => by simpa [RepKs] using h
  | d :: r, vs, h => by
    simp only [RepKs] at h ⊢
    obtain ⟨v, t, e, q, q'⟩ := h
    exact ⟨v, t, e, Rep.mono st d.2 v q, RepKs.mono st r t q'⟩
theorem RepRho.mono (st : Step K ι H ι' H') (r : RepRho K ι H ρ σ) : RepRho K ι' H' ρ σ :=
  ⟨r.len, fun i d h => let ⟨v, e, q⟩ := r.at_ i d h; ⟨v, e, q.mono st⟩⟩
theorem Reps.nil : Reps K ι H [] [] := by simp [Reps]
theorem Reps.cons {d : D} {v : V} {ds : List D} {vs : List V} (h : Rep K ι H d v) (t : Reps K ι H ds vs) : Reps K ι H (d :: ds) (v :: vs) := by
  simp only [Reps]; exact ⟨v, vs, rfl, h, t⟩
theorem Reps.inv_cons {d : D} {ds : List D} {vs : List V} (h : Reps K ι H (d :: ds) vs) : ∃ v t, vs = v :: t ∧ Rep K ι H d v ∧ Reps K ι H ds t := by simpa only [Reps] using h
theorem Reps.inv_nil {vs : List V} (h : Reps K ι H [] vs) : vs = [] := by simpa only [Reps] using h
theorem Reps.length : ∀ {ds : List D} {vs : List V}, Reps K ι H ds vs → ds.length = vs.length
  | [], vs, h => by rw [h.inv_nil]; rfl
  | d :: r, vs, h => by
    obtain ⟨v, t, e, _, q⟩ := h.inv_cons
    subst e
    simp [Reps.length q]
theorem Reps.get : ∀ {ds : List D} {vs : List V} {i : Nat} {d : D}, Reps K ι H ds vs → ds[i]? = some d → ∃ v, vs[i]? = some v ∧ Rep K ι H d v
  | [], vs, i, d, h, e => by simp at e
  | x :: r, vs, i, d, h, e => by
    obtain ⟨v, t, e', q, q'⟩ := h.inv_cons
    subst e'
    cases i with
    | zero => simp at e; subst e; exact ⟨v, by simp, q⟩
    | succ i =>
      obtain ⟨w, h1, h2⟩ := Reps.get (i := i) q' (by simpa using e)
      exact ⟨w, by simpa using h1, h2⟩
theorem Reps.append : ∀ {ds es : List D} {vs ws : List V}, Reps K ι H ds vs → Reps K ι H es ws → Reps K ι H (ds ++ es) (vs ++ ws)
  | [], es, vs, ws, h, t => by rw [h.inv_nil]; exact t
  | d :: r, es, vs, ws, h, t => by
    obtain ⟨v, u, e, q, q'⟩ := h.inv_cons
    subst e
    exact .cons q (Reps.append q' t)
theorem Reps.take : ∀ {ds : List D} {vs : List V} (n : Nat), Reps K ι H ds vs → Reps K ι H (ds.take n) (vs.take n)
  | _, _, 0, _ => by simp [Reps]
  | [], vs, n + 1, h => by rw [h.inv_nil]; simp [Reps]
  | d :: r, vs, n + 1, h => by
    obtain ⟨v, u, e, q, q'⟩ := h.inv_cons
    subst e
    exact .cons q (Reps.take n q')
theorem Reps.drop : ∀ {ds : List D} {vs : List V} (n : Nat), Reps K ι H ds vs → Reps K ι H (ds.drop n) (vs.drop n)
  | _, _, 0, h => h
  | [], vs, n + 1, h => by rw [h.inv_nil]; simp [Reps]
  | d :: r, vs, n + 1, h => by
    obtain ⟨v, u, e, q, q'⟩ := h.inv_cons
    subst e
    exact Reps.drop n q'
theorem Reps.set : ∀ {ds : List D} {vs : List V} {d : D} {v : V} (n : Nat), Reps K ι H ds vs → Rep K ι H d v → Reps K ι H (ds.set n d) (vs.set n v)
  | [], vs, d, v, n, h, q => by rw [h.inv_nil]; simp [Reps]
  | x :: r, vs, d, v, 0, h, q => by
    obtain ⟨w, u, e, q', t⟩ := h.inv_cons
    subst e
    exact .cons q t
  | x :: r, vs, d, v, n + 1, h, q => by
    obtain ⟨w, u, e, q', t⟩ := h.inv_cons
    subst e
    exact .cons q' (Reps.set n t q)
theorem Reps.dropLast : ∀ {ds : List D} {vs : List V}, Reps K ι H ds vs → Reps K ι H ds.dropLast vs.dropLast
  | [], vs, h => by rw [h.inv_nil]; simp [Reps]
  | [x], vs, h => by
    obtain ⟨w, u, e, q', t⟩ := h.inv_cons
    subst e
    rw [t.inv_nil]
    simp [Reps]
  | x :: y :: r, vs, h => by
    obtain ⟨w, u, e, q', t⟩ := h.inv_cons
    subst e
    obtain ⟨w2, u2, e2, q2, t2⟩ := t.inv_cons
    subst e2
    exact .cons q' (Reps.dropLast t)
theorem RepKs.length : ∀ {ds : List (Key × D)} {vs : List (Key × V)}, RepKs K ι H ds vs → ds.length = vs.length
  | [], vs, h => by simp [RepKs] at h; rw [h]; rfl
  | d :: r, vs, h => by
    simp only [RepKs] at h
    obtain ⟨v, t, e, _, q⟩ := h
    subst e
    simp [RepKs.length q]
/-- the values of a memory where a new object is laid -/
theorem step_new {a : Addr} {o : HO} (hn : H a = none) (t : List Addr) (ht : ∀ x ∈ t, x = a) : Step K ι H (ι ++ t) (upd H a o) := by
  refine ⟨⟨t, rfl, fun x hx => by rw [ht x hx]; exact hn⟩, fun x u h _ => by rw [upd_ne (ne_of_none h hn)]; exact h, fun x h => ?_, fun x vs h => ?_, fun x vs h => ?_, fun x o u h => by rw [upd_ne (ne_of_none h hn)]; exact h⟩
  · by_cases e : x = a
    · subst e; exact hn
    · rw [upd_ne e] at h; exact h
  · rcases h with (h | ⟨u, h⟩) | h
    · exact .inl (.inl (by rw [upd_ne (ne_of_none h hn)]; exact h))
    · exact .inl (.inr ⟨u, by rw [upd_ne (ne_of_none h hn)]; exact h⟩)
    · exact .inr h
  · rcases h with ⟨u, h⟩ | h
    · exact .inl ⟨u, by rw [upd_ne (ne_of_none h hn)]; exact h⟩
    · exact .inr h
theorem sqL_upd {a b : Addr} {o : HO} {vs : List V} (h : SqL K H b vs) (ne : b ≠ a) : SqL K (upd H a o) b vs := by
  rcases h with (h | ⟨u, h⟩) | h
  · exact .inl (.inl (by rw [upd_ne ne]; exact h))
  · exact .inl (.inr ⟨u, by rw [upd_ne ne]; exact h⟩)
  · exact .inr h
theorem CellRep.mono {a : Addr} {c : Cell} (st : Step K ι H ι' H') (h1 : ∀ o, H a = some o → H' a = some o) (h : CellRep K ι H a c) : CellRep K ι' H' a c := by
  cases c with
  | lst ds => obtain ⟨vs, e, r⟩ := h; exact ⟨vs, h1 _ e, r.mono st⟩
  | dic kvs => obtain ⟨vs, e, r⟩ := h; exact ⟨vs, h1 _ e, r.mono st⟩
  | frd kvs => obtain ⟨o, vs, e, r⟩ := h; exact ⟨o, vs, h1 _ e, r.mono st⟩
theorem RepM.live (m : RepM K ι H M) {a : Addr} (h : a ∈ ι) : H a ≠ none := by
  obtain ⟨n, hn, e⟩ := List.mem_iff_getElem.mp h
  have hM : n < M.length := by rw [← m.len]; exact hn
  obtain ⟨b, e', r⟩ := m.at_ n M[n] (List.getElem?_eq_getElem hM)
  rw [List.getElem?_eq_getElem hn] at e'
  have : b = a := by rw [← e]; exact (Option.some.inj e').symm
  subst this
  cases hc : M[n] with
  | lst ds => rw [hc] at r; obtain ⟨vs, q, _⟩ := r; rw [q]; simp
  | dic ds => rw [hc] at r; obtain ⟨vs, q, _⟩ := r; rw [q]; simp
  | frd ds => rw [hc] at r; obtain ⟨o, vs, q, _⟩ := r; rw [q]; simp
/-- an object that is not of the memory -/
theorem RepM.keep {a : Addr} {o : HO} (m : RepM K ι H M) (hn : H a = none) : RepM K ι (upd H a o) M := by
  have st : Step K ι H ι (upd H a o) := by simpa using step_new (K := K) (ι := ι) (o := o) hn [] (by simp)
  exact ⟨m.len, m.nd, fun n c h => let ⟨b, e, r⟩ := m.at_ n c h; ⟨b, e, r.mono st fun u q => by rw [upd_ne (ne_of_none q hn)]; exact q⟩⟩
/-- a new cell; where an address of the memory stands (a read-only list) it is tracked or of the module, so fresh ones differ -/
theorem RepM.push {a : Addr} {o : HO} {c : Cell} (m : RepM K ι H M) (hn : H a = none) (hc : CellRep K (ι ++ [a]) (upd H a o) a c) : RepM K (ι ++ [a]) (upd H a o) (M ++ [c]) := by
  have ha : a ∉ ι := fun z => m.live z hn
  have st : Step K ι H (ι ++ [a]) (upd H a o) := step_new hn [a] (by simp)
  refine ⟨by simp [m.len], ?_, fun n c' h => ?_⟩
  · rw [List.nodup_append]
    exact ⟨m.nd, by simp, fun x hx y hy => by simp at hy; subst hy; exact fun e => ha (e ▸ hx)⟩
  · by_cases hlt : n < M.length
    · rw [List.getElem?_append_left hlt] at h
      obtain ⟨b, e, r⟩ := m.at_ n c' h
      exact ⟨b, st.get e, r.mono st fun u q => by rw [upd_ne (ne_of_none q hn)]; exact q⟩
    · have hn' : n = M.length := by
        have := (List.getElem?_eq_some_iff.mp h).1
        simp at this
        omega
      subst hn'
      rw [List.getElem?_append_right (Nat.le_refl _)] at h
      simp at h
      subst h
      exact ⟨a, by rw [← m.len]; simp, hc⟩
end
end J

namespace J
open PySem PySem.Spec
open PyProof.Rows L2
/-! ## what is wanted of a result -/
/-- the classes of errors: class, fields -/
abbrev Exs := Nat → Option (Addr × List Str)
def RX (K : PySem.W.Frag) (ex : Exs) (ι : List Addr) (H : Hp) (c : Nat) (as : List D) (cls : Value) (dx : Option Addr) : Prop :=
  ∃ A ns a vs, ex c = some (A, ns) ∧ cls = .ref A ∧ dx = some a ∧ H a = some (.xd (ns.zip vs)) ∧ as.length = ns.length ∧ Reps K ι H as vs
def Post {α β : Type} (K : PySem.W.Frag) (ex : Exs) (rel : List Addr → Hp → α → β → Prop) (W : Value → Option Addr → Hp → Prop) (ι : List Addr) (H : Hp) (r : R α) (Q : β → Hp → Prop) : Prop := match r with
  | .ok a M' => ∀ ι' H' v, Step K ι H ι' H' → RepM K ι' H' M' → rel ι' H' a v → Q v H'
  | .err c as M' => ∀ ι' H' cls dx, Step K ι H ι' H' → RepM K ι' H' M' → RX K ex ι' H' c as cls dx → W cls dx H'
  | .bad => False
section
variable {α β γ δ : Type} {K : PySem.W.Frag} {ex : Exs} {rel : List Addr → Hp → α → β → Prop} {rel2 : List Addr → Hp → γ → δ → Prop} {W : Value → Option Addr → Hp → Prop} {ι ι' : List Addr} {H H' : Hp} {r : R α} {Q Q' : β → Hp → Prop}
theorem Post.imp (p : Post K ex rel W ι H r Q) (h : ∀ v H', Q v H' → Q' v H') : Post K ex rel W ι H r Q' := by
  cases r with
  | ok a M => exact fun ι' H' v a b c => h _ _ (p ι' H' v a b c)
  | err c as M => exact p
  | bad => exact p
theorem Post.at (st : Step K ι H ι' H') (p : Post K ex rel W ι H r Q) : Post K ex rel W ι' H' r Q := by
  cases r with
  | ok a M => exact fun ι2 H2 v a b c => p ι2 H2 v (st.trans a) b c
  | err c as M => exact fun ι2 H2 cls dx a b c => p ι2 H2 cls dx (st.trans a) b c
  | bad => exact p
/-- one part behind another -/
theorem Post.seq {k : α → Mem → R γ} {R' : δ → Hp → Prop} (p : Post K ex rel2 W ι H (r.bind k) R') :
    Post K ex rel W ι H r fun x H1 => ∃ d ι1 M1, Step K ι H ι1 H1 ∧ RepM K ι1 H1 M1 ∧ rel ι1 H1 d x ∧ r = .ok d M1 ∧ Post K ex rel2 W ι1 H1 (k d M1) R' := by
  cases r with
  | ok a M => exact fun ι' H' v st m q => ⟨a, ι', M, st, m, q, rfl, p.at st⟩
  | err c as M => exact p
  | bad => exact p
theorem Post.now {a : α} {M : Mem} {v : β} (p : Post K ex rel W ι H (.ok a M) Q) (m : RepM K ι H M) (h : rel ι H a v) : Q v H := p ι H v .refl m h
end
abbrev PostE (K : PySem.W.Frag) (ex : Exs) := Post (α := D) (β := V) K ex (Rep K)
abbrev relT : List Addr → Hp → Bool → Bool → Prop := fun _ _ a b => a = b
abbrev relO : List Addr → Hp → Option Int → Option Int → Prop := fun _ _ a b => a = b
/-! ## readings -/
abbrev RE := Rho → Mem → R D
def tE (K : PySem.W.Frag) (ex : Exs) (W : WX) (f : Rho → Mem → R D) : TE := fun σ H Q => ∃ ι ρ M, RepM K ι H M ∧ RepRho K ι H ρ σ ∧ Post K ex (Rep K) (fun c d H => W c d σ H) ι H (f ρ M) Q
def tT (K : PySem.W.Frag) (ex : Exs) (W : WX) (f : Rho → Mem → R Bool) : TT := fun σ H Q => ∃ ι ρ M, RepM K ι H M ∧ RepRho K ι H ρ σ ∧ Post K ex relT (fun c d H => W c d σ H) ι H (f ρ M) Q
def tA (K : PySem.W.Frag) (ex : Exs) (W : WX) (f : Rho → Mem → R (List D)) : TA := fun σ H Q => ∃ ι ρ M, RepM K ι H M ∧ RepRho K ι H ρ σ ∧ Post K ex (Reps K) (fun c d H => W c d σ H) ι H (f ρ M) Q
def tO (K : PySem.W.Frag) (ex : Exs) (W : WX) (f : Rho → Mem → R (Option Int)) : TO := fun σ H Q => ∃ ι ρ M, RepM K ι H M ∧ RepRho K ι H ρ σ ∧ Post K ex relO (fun c d H => W c d σ H) ι H (f ρ M) Q
theorem _root_.L2.PE.imp {X : Cx} {e : Expr} {t t' : TE} (h : PE X e t) (w : ∀ σ H Q, t' σ H Q → t σ H Q) : PE X e t' := ⟨fun pins s σ H Q I q => h.run pins s σ H Q I (w σ H Q q)⟩
theorem _root_.L2.PT.imp {X : Cx} {e : Expr} {t t' : TT} (h : PT X e t) (w : ∀ σ H Q, t' σ H Q → t σ H Q) : PT X e t' := ⟨fun pins s σ H Q I q => h.run pins s σ H Q I (w σ H Q q)⟩
theorem _root_.L2.PA.imp {X : Cx} {e : List Expr} {t t' : TA} (h : PA X e t) (w : ∀ σ H Q, t' σ H Q → t σ H Q) : PA X e t' := ⟨fun pos pins s σ H Q I q => h.run pos pins s σ H Q I (w σ H Q q)⟩
theorem _root_.L2.PO.imp {X : Cx} {e : Option Expr} {t t' : TO} (h : PO X e t) (w : ∀ σ H Q, t' σ H Q → t σ H Q) : PO X e t' := ⟨fun pins s σ H Q I q => h.run pins s σ H Q I (w σ H Q q)⟩
/-- a value, without errors -/
def PostV (K : PySem.W.Frag) (ι : List Addr) (H : Hp) (r : Option (D × Mem)) (Q : VK) : Prop := match r with
  | some p => ∀ ι' H' v, Step K ι H ι' H' → RepM K ι' H' p.2 → Rep K ι' H' p.1 v → Q v H'
  | none => False
theorem PostV.of {K : PySem.W.Frag} {ex : Exs} {W : Value → Option Addr → Hp → Prop} {ι : List Addr} {H : Hp} {r : Option (D × Mem)} {Q : VK} (p : Post K ex (Rep K) W ι H (ofO r) Q) : PostV K ι H r Q := by
  cases r with
  | none => exact p
  | some r => exact p
theorem PostV.now {K : PySem.W.Frag} {ι : List Addr} {H : Hp} {d : D} {M : Mem} {Q : VK} {v : V} (p : PostV K ι H (some (d, M)) Q) (m : RepM K ι H M) (h : Rep K ι H d v) : Q v H := p ι H v .refl m h
/-- .. as one value of the same memory -/
theorem PostV.val {K : PySem.W.Frag} {ex : Exs} {W : Value → Option Addr → Hp → Prop} {ι : List Addr} {H : Hp} {r : Option D} {M : Mem} {Q : VK} (p : Post K ex (Rep K) W ι H (valO M r) Q) : PostV K ι H (r.map fun d => (d, M)) Q := by
  cases r with
  | none => exact p
  | some r => exact p
/-- two values -/
def rD2 (K : PySem.W.Frag) (g : D → D → Mem → Option (D × Mem)) : R2 := fun x y H Q => ∃ ι M dx dy, RepM K ι H M ∧ Rep K ι H dx x ∧ Rep K ι H dy y ∧ PostV K ι H (g dx dy M) Q
def rD1 (K : PySem.W.Frag) (g : D → Mem → Option (D × Mem)) : V → Hp → VK → Prop := fun x H Q => ∃ ι M dx, RepM K ι H M ∧ Rep K ι H dx x ∧ PostV K ι H (g dx M) Q
def rDs (K : PySem.W.Frag) (g : List D → Mem → Option (D × Mem)) : List V → Hp → VK → Prop := fun xs H Q => ∃ ι M ds, RepM K ι H M ∧ Reps K ι H ds xs ∧ PostV K ι H (g ds M) Q
def rDm (K : PySem.W.Frag) (g : D → List D → Mem → Option (D × Mem)) : V → List V → Hp → VK → Prop := fun x xs H Q => ∃ ι M d ds, RepM K ι H M ∧ Rep K ι H d x ∧ Reps K ι H ds xs ∧ PostV K ι H (g d ds M) Q
section
variable {K : PySem.W.Frag} {ι : List Addr} {H : Hp} {M : Mem} {v : V}
theorem rep_int {i : Int} (h : Rep K ι H (.int i) v) : v = .int i := by simpa only [Rep] using h
theorem rep_bl {i : Bool} (h : Rep K ι H (.bl i) v) : v = .bl i := by simpa only [Rep] using h
theorem rep_str {i : Str} (h : Rep K ι H (.str i) v) : v = .str i := by simpa only [Rep] using h
theorem rep_non (h : Rep K ι H .non v) : v = .non := by simpa only [Rep] using h
theorem rep_tup {ds : List D} (h : Rep K ι H (.tup ds) v) : ∃ a vs, v = .ref a ∧ SqT K H a vs ∧ Reps K ι H ds vs := by simpa only [Rep] using h
theorem rep_rol {ds : List D} (h : Rep K ι H (.rol ds) v) : ∃ a vs, v = .ref a ∧ SqF K H a vs ∧ Reps K ι H ds vs := by simpa only [Rep] using h
theorem rep_cell {n : Nat} (h : Rep K ι H (.cell n) v) : ∃ a, v = .ref a ∧ ι[n]? = some a := by simpa only [Rep] using h
theorem Rep.int {i : Int} : Rep K ι H (.int i) (.int i) := by simp only [Rep]
theorem Rep.bl {i : Bool} : Rep K ι H (.bl i) (.bl i) := by simp only [Rep]
theorem Rep.str {i : Str} : Rep K ι H (.str i) (.str i) := by simp only [Rep]
theorem Rep.non : Rep K ι H .non .non := by simp only [Rep]
theorem Rep.tup {ds : List D} {a : Addr} {vs : List V} (h : SqT K H a vs) (r : Reps K ι H ds vs) : Rep K ι H (.tup ds) (.ref a) := by simp only [Rep]; exact ⟨a, vs, rfl, h, r⟩
theorem Rep.cell {n : Nat} {a : Addr} (h : ι[n]? = some a) : Rep K ι H (.cell n) (.ref a) := by simp only [Rep]; exact ⟨a, rfl, h⟩
theorem lst_at {n : Nat} {a : Addr} {ds : List D} (m : RepM K ι H M) (h : ι[n]? = some a) (e : lstAt M n = some ds) : ∃ vs, H a = some (.lst vs) ∧ Reps K ι H ds vs := by
  unfold lstAt at e
  split at e
  · rename_i xs hx
    cases e
    obtain ⟨b, e', r⟩ := m.at_ _ _ hx
    rw [h] at e'; cases e'
    exact r
  · cases e
theorem dic_at {n : Nat} {a : Addr} {kvs : List (Key × D)} (m : RepM K ι H M) (h : ι[n]? = some a) (e : M[n]? = some (.dic kvs)) : ∃ vs, H a = some (.dK vs) ∧ RepKs K ι H kvs vs := by
  obtain ⟨b, e', r⟩ := m.at_ _ _ e
  rw [h] at e'; cases e'
  exact r
theorem frd_at {n : Nat} {a : Addr} {kvs : List (Key × D)} (m : RepM K ι H M) (h : ι[n]? = some a) (e : M[n]? = some (.frd kvs)) : ∃ o vs, H a = some (.frz o (.dK vs)) ∧ RepKs K ι H kvs vs := by
  obtain ⟨b, e', r⟩ := m.at_ _ _ e
  rw [h] at e'; cases e'
  exact r
theorem dget_rd {a : Addr} {kvs : List (Key × V)} {k : Key} (e : Rd H a (.dK kvs)) : DGet H a (kV k) (valV kvs k) := .inl ⟨kvs, k, e, rfl, rfl⟩
theorem lstAt_eq {n : Nat} {ds : List D} (e : lstAt M n = some ds) : M[n]? = some (.lst ds) := by
  unfold lstAt at e
  split at e
  · rename_i h; cases e; exact h
  · cases e
/-- a new tuple -/
theorem PostV.newT {ds : List D} {vs : List V} {Q : VK} {p : Addr} (q : PostV K ι H (some (.tup ds, M)) Q) (m : RepM K ι H M) (r : Reps K ι H ds vs) (hp : H p = none) : Q (.ref p) (upd H p (.tup vs)) := by
  have st : Step K ι H ι (upd H p (.tup vs)) := by simpa using step_new (K := K) (ι := ι) (o := .tup vs) hp [] (by simp)
  exact q ι _ _ st (m.keep hp) (.tup (.of upd_same) (r.mono st))
/-- a new list -/
theorem PostV.newL {ds : List D} {vs : List V} {Q : VK} {p : Addr} (q : PostV K ι H (some (.cell M.length, M ++ [.lst ds])) Q) (m : RepM K ι H M) (r : Reps K ι H ds vs) (hp : H p = none) : Q (.ref p) (upd H p (.lst vs)) := by
  have st : Step K ι H (ι ++ [p]) (upd H p (.lst vs)) := step_new hp [p] (by simp)
  refine q (ι ++ [p]) _ _ st (m.push hp ⟨vs, upd_same, r.mono st⟩) (.cell ?_)
  rw [← m.len]
  simp
/-- a new dict -/
theorem PostV.newK {ds : List (Key × D)} {vs : List (Key × V)} {Q : VK} {p : Addr} (q : PostV K ι H (some (.cell M.length, M ++ [.dic ds])) Q) (m : RepM K ι H M) (r : RepKs K ι H ds vs) (hp : H p = none) : Q (.ref p) (upd H p (.dK vs)) := by
  have st : Step K ι H (ι ++ [p]) (upd H p (.dK vs)) := step_new hp [p] (by simp)
  refine q (ι ++ [p]) _ _ st (m.push hp ⟨vs, upd_same, r.mono st⟩) (.cell ?_)
  rw [← m.len]
  simp
/-- a cell that is written -/
theorem step_put {n : Nat} {a : Addr} {o o' : HO} (h : ι[n]? = some a) (e : H a = some o) (ho : (∀ xs, o ≠ .tup xs) ∧ ∀ b u, o ≠ .frz b u) : Step K ι H ι (upd H a o') := by
  have mem : a ∈ ι := List.mem_of_getElem? h
  refine ⟨⟨[], by simp, by simp⟩, fun x u q hn => by rw [upd_ne (by rintro rfl; exact hn mem)]; exact q, fun x q => ?_, fun x vs q => ?_, fun x vs q => ?_, fun x b u q => ?_⟩
  · by_cases z : x = a
    · subst z; rw [upd_same] at q; cases q
    · rw [upd_ne z] at q; exact q
  · by_cases z : x = a
    · subst z
      rcases q with (q | ⟨u, q⟩) | q
      · rw [e] at q; exact absurd (Option.some.inj q) (ho.1 vs)
      · rw [e] at q; exact absurd (Option.some.inj q) (ho.2 _ _)
      · exact .inr q
    · rcases q with (q | ⟨u, q⟩) | q
      · exact .inl (.inl (by rw [upd_ne z]; exact q))
      · exact .inl (.inr ⟨u, by rw [upd_ne z]; exact q⟩)
      · exact .inr q
  · by_cases z : x = a
    · subst z
      rcases q with ⟨u, q⟩ | q
      · rw [e] at q; exact absurd (Option.some.inj q) (ho.2 _ _)
      · exact .inr q
    · rcases q with ⟨u, q⟩ | q
      · exact .inl ⟨u, by rw [upd_ne z]; exact q⟩
      · exact .inr q
  · by_cases z : x = a
    · subst z
      rw [e] at q; exact absurd (Option.some.inj q) (ho.2 _ _)
    · rw [upd_ne z]; exact q
theorem RepM.put {n : Nat} {a : Addr} {o' : HO} {c : Cell} (m : RepM K ι H M) (h : ι[n]? = some a) (st : Step K ι H ι (upd H a o')) (hc : CellRep K ι (upd H a o') a c) : RepM K ι (upd H a o') (M.set n c) := by
  refine ⟨by simp [m.len], m.nd, fun k c' e => ?_⟩
  by_cases z : k = n
  · subst z
    have hl : k < M.length := by rw [← m.len]; exact (List.getElem?_eq_some_iff.mp h).1
    rw [List.getElem?_set_self hl] at e
    cases e
    exact ⟨a, h, hc⟩
  · rw [List.getElem?_set_ne (fun w => z w.symm)] at e
    obtain ⟨b, e', r⟩ := m.at_ k c' e
    refine ⟨b, e', r.mono st fun u q => ?_⟩
    rw [upd_ne]
    · exact q
    · rintro rfl
      obtain ⟨h1, h2⟩ := List.getElem?_eq_some_iff.mp h
      obtain ⟨h3, h4⟩ := List.getElem?_eq_some_iff.mp e'
      exact z ((List.getElem_inj m.nd).mp (h4.trans h2.symm))
theorem PostV.put {n : Nat} {a : Addr} {es : List D} {vs : List V} {Q : VK} {d : D} {v : V} {ws : List V} (q : PostV K ι H (some (d, M.set n (.lst es))) Q) (m : RepM K ι H M) (h : ι[n]? = some a) (e : H a = some (.lst ws)) (r : Reps K ι H es vs) (hd : Rep K ι H d v) : Q v (upd H a (.lst vs)) := by
  have st : Step K ι H ι (upd H a (.lst vs)) := step_put h e ⟨(fun _ z => nomatch z), (fun _ _ z => nomatch z)⟩
  exact q ι _ _ st (m.put h st ⟨vs, upd_same, r.mono st⟩) (hd.mono st)
theorem sz {n : Nat} (h : n ≤ big) : n ≤ sizeLine := h
theorem szl {n : Nat} (h : n < big) : n < sizeLine := h
end
/-! ## operators -/
section
variable {X : Cx}
theorem opr_add : OpR X (binaryOp .Add) (rD2 X.K (binD .add)) := by
  intro pins s σ H x y v u Q I rx ry h
  obtain ⟨ι, M, dx, dy, m, r1, r2, p⟩ := h
  cases dx with
  | int i =>
    cases dy with
    | int j =>
      rw [rep_int r1] at rx; rw [rep_int r2] at ry
      exact op_add pins s σ H _ _ v u Q I rx ry ⟨i, j, rfl, rfl, p.now m .int⟩
    | _ => exact p.elim
  | str i =>
    cases dy with
    | str j =>
      simp only [binD] at p
      split at p
      · rename_i hz
        rw [rep_str r1] at rx; rw [rep_str r2] at ry
        exact op_add_str pins s σ H _ _ v u Q I rx ry ⟨i, j, rfl, rfl, sz hz, p.now m .str⟩
      · exact p.elim
    | _ => exact p.elim
  | tup xs =>
    cases dy with
    | tup ys =>
      simp only [binD] at p
      split at p
      · rename_i hz
        obtain ⟨a, vs, rfl, hs, rs⟩ := rep_tup r1
        obtain ⟨b, ws, rfl, ht, rt⟩ := rep_tup r2
        refine op_catA pins s σ H _ _ v u Q I rx ry ⟨a, b, vs, ws, rfl, rfl, hs, ht, by rw [← rs.length, ← rt.length]; exact sz hz, fun e => ?_, fun _ e => ?_, fun _ _ q hq => p.newT m (rs.append rt) hq⟩
        · subst e
          have : xs = [] := by
            have := rs.length
            simpa using this
          subst this
          exact p.now m (by simpa using r2)
        · subst e
          have : ys = [] := by
            have := rt.length
            simpa using this
          subst this
          exact p.now m (by simpa using r1)
      · exact p.elim
    | _ => exact p.elim
  | cell n =>
    cases dy with
    | cell k =>
      simp only [binD] at p
      cases e1 : lstAt M n with
      | none => rw [e1] at p; exact p.elim
      | some xs =>
        cases e2 : lstAt M k with
        | none => rw [e1, e2] at p; exact p.elim
        | some ys =>
          rw [e1, e2] at p
          simp only [Option.bind_some] at p
          split at p
          · rename_i hz
            obtain ⟨a, rfl, ha⟩ := rep_cell r1
            obtain ⟨b, rfl, hb⟩ := rep_cell r2
            obtain ⟨vs, h1, rs⟩ := lst_at m ha e1
            obtain ⟨ws, h2, rt⟩ := lst_at m hb e2
            exact op_cat pins s σ H _ _ v u Q I rx ry ⟨a, b, vs, ws, rfl, rfl, h1, h2, by rw [← rs.length, ← rt.length]; exact sz hz, fun q hq => p.newL m (rs.append rt) hq⟩
          · exact p.elim
    | _ => exact p.elim
  | _ => cases dy <;> exact p.elim
theorem opr_sub : OpR X (binaryOp .Sub) (rD2 X.K (binD .sub)) := by
  intro pins s σ H x y v u Q I rx ry h
  obtain ⟨ι, M, dx, dy, m, r1, r2, p⟩ := h
  cases dx <;> cases dy <;> first
    | exact p.elim
    | (rw [rep_int r1] at rx; rw [rep_int r2] at ry
       exact op_sub pins s σ H _ _ v u Q I rx ry ⟨_, _, rfl, rfl, p.now m .int⟩)
theorem opr_mul : OpR X (binaryOp .Mult) (rD2 X.K (binD .mul)) := by
  intro pins s σ H x y v u Q I rx ry h
  obtain ⟨ι, M, dx, dy, m, r1, r2, p⟩ := h
  cases dx with
  | int i =>
    cases dy with
    | int j =>
      simp only [binD] at p
      split at p
      · rename_i hz
        rw [rep_int r1] at rx; rw [rep_int r2] at ry
        refine op_mul pins s σ H _ _ v u Q I rx ry ⟨_, _, rfl, rfl, ?_, p.now m .int⟩
        simpa [mulOk, CMul, or_comm] using hz
      · exact p.elim
    | _ => exact p.elim
  | _ => cases dy <;> exact p.elim
theorem opr_fdiv : OpR X (binaryOp .FloorDiv) (rD2 X.K (binD .fdiv)) := by
  intro pins s σ H x y v u Q I rx ry h
  obtain ⟨ι, M, dx, dy, m, r1, r2, p⟩ := h
  cases dx with
  | int i =>
    cases dy with
    | int j =>
      simp only [binD] at p
      split at p
      · rename_i hz
        rw [rep_int r1] at rx; rw [rep_int r2] at ry
        refine op_fdiv pins s σ H _ _ v u Q I rx ry ⟨_, _, rfl, rfl, ?_, p.now m .int⟩
        simpa [CDiv] using hz
      · exact p.elim
    | _ => exact p.elim
  | _ => cases dy <;> exact p.elim
theorem opr_mod : OpR X (binaryOp .Mod) (rD2 X.K (binD .mod)) := by
  intro pins s σ H x y v u Q I rx ry h
  obtain ⟨ι, M, dx, dy, m, r1, r2, p⟩ := h
  cases dx with
  | int i =>
    cases dy with
    | int j =>
      simp only [binD] at p
      split at p
      · rename_i hz
        rw [rep_int r1] at rx; rw [rep_int r2] at ry
        exact op_mod pins s σ H _ _ v u Q I rx ry ⟨_, _, rfl, rfl, hz, p.now m .int⟩
      · exact p.elim
    | _ => exact p.elim
  | _ => cases dy <;> exact p.elim
def bopE : Bop → Operator
  | .add => .Add | .sub => .Sub | .mul => .Mult | .fdiv => .FloorDiv | .mod => .Mod
theorem opr_bin (o : Bop) : OpR X (binaryOp (bopE o)) (rD2 X.K (binD o)) := by
  cases o with
  | add => exact opr_add
  | sub => exact opr_sub
  | mul => exact opr_mul
  | fdiv => exact opr_fdiv
  | mod => exact opr_mod
end
end J

namespace J
open PySem PySem.Spec
open PyProof.Rows L2
/-! ## comparisons -/
section
variable {K : PySem.W.Frag} {ι : List Addr} {H : Hp} {M : Mem}
mutual
theorem dp_of : ∀ (d : D) (v : V), d.pure = true → Rep K ι H d v → Dp K H v (toP d)
  | .non, v, _, h => by rw [rep_non h]; exact .non
  | .bl b, v, _, h => by rw [rep_bl h]; exact .bl b
  | .int i, v, _, h => by rw [rep_int h]; exact .int i
  | .str s, v, _, h => by rw [rep_str h]; exact .str s
  | .tup ds, v, p, h => by
    obtain ⟨a, vs, rfl, q, r⟩ := rep_tup h
    exact .tup q (dps_of ds vs (by simpa [D.pure] using p) r)
  | .rol ds, v, p, h => by
    obtain ⟨a, vs, rfl, q, r⟩ := rep_rol h
    exact .lst q.l (dps_of ds vs (by simpa [D.pure] using p) r)
  | .cell n, v, p, h => by simp [D.pure] at p
theorem dps_of : ∀ (ds : List D) (vs : List V), D.pures ds = true → Reps K ι H ds vs → DpAll K H vs (toPs ds)
  | [], vs, _, h => by rw [h.inv_nil]; exact .nil
  | d :: r, vs, p, h => by
    obtain ⟨v, t, rfl, q, q'⟩ := h.inv_cons
    simp only [D.pures, Bool.and_eq_true] at p
    exact .cons (dp_of d v p.1 q) (dps_of r t p.2 q')
end
theorem dpM_of {d : D} {v : V} {p : PyData} (m : RepM K ι H M) (h : Rep K ι H d v) (e : toPM M d = some p) : Dp K H v p := by
  cases d with
  | cell n =>
    simp only [toPM] at e
    obtain ⟨a, rfl, ha⟩ := rep_cell h
    cases e1 : lstAt M n with
    | none => rw [e1] at e; cases e
    | some ds =>
      rw [e1, Option.bind_some] at e
      split at e
      · rename_i hp
        cases e
        obtain ⟨vs, h1, rs⟩ := lst_at m ha e1
        exact .lst (.of h1) (dps_of ds vs hp rs)
      · cases e
  | _ =>
    simp only [toPM] at e
    split at e
    · rename_i hp
      cases e
      exact dp_of _ _ hp h
    · cases e
theorem flat_of {d : D} {v : V} (h : Rep K ι H d v) (f : flatD d = true) : flatV v = true := by
  cases d with
  | non => rw [rep_non h]; rfl
  | bl _ => rw [rep_bl h]; rfl
  | int _ => rw [rep_int h]; rfl
  | str _ => rw [rep_str h]; rfl
  | tup _ => cases f
  | rol _ => cases f
  | cell _ => cases f
theorem flats_of : ∀ {ds : List D} {vs : List V}, Reps K ι H ds vs → ds.all flatD = true → vs.all flatV = true
  | [], vs, h, _ => by rw [h.inv_nil]; rfl
  | d :: r, vs, h, f => by
    obtain ⟨v, t, rfl, q, q'⟩ := h.inv_cons
    simp only [List.all_cons, Bool.and_eq_true] at f ⊢
    exact ⟨flat_of q f.1, flats_of q' f.2⟩
theorem eqF_of {x y : D} {v w : V} (h : Rep K ι H x v) (h' : Rep K ι H y w) (f : flatD x = true) (f' : flatD y = true) : eqF x y = eqV v w := by
  cases x <;> first | cases f | skip
  all_goals (cases y <;> first | cases f' | skip)
  all_goals first
    | (rw [rep_int h, rep_int h']; rfl)
    | (rw [rep_int h, rep_str h']; rfl)
    | (rw [rep_int h, rep_bl h']; rfl)
    | (rw [rep_int h, rep_non h']; rfl)
    | (rw [rep_str h, rep_int h']; rfl)
    | (rw [rep_str h, rep_str h']; rfl)
    | (rw [rep_str h, rep_bl h']; rfl)
    | (rw [rep_str h, rep_non h']; rfl)
    | (rw [rep_bl h, rep_int h']; rfl)
    | (rw [rep_bl h, rep_str h']; rfl)
    | (rw [rep_bl h, rep_bl h']; rfl)
    | (rw [rep_bl h, rep_non h']; rfl)
    | (rw [rep_non h, rep_int h']; rfl)
    | (rw [rep_non h, rep_str h']; rfl)
    | (rw [rep_non h, rep_bl h']; rfl)
    | (rw [rep_non h, rep_non h']; rfl)
theorem any_of {x : D} {v : V} (h : Rep K ι H x v) (f : flatD x = true) : ∀ {ds : List D} {vs : List V}, Reps K ι H ds vs → ds.all flatD = true → (ds.any fun y => eqF y x) = inV v vs
  | [], vs, r, _ => by rw [r.inv_nil]; rfl
  | d :: r, vs, q, g => by
    obtain ⟨w, t, rfl, q1, q2⟩ := q.inv_cons
    simp only [List.all_cons, Bool.and_eq_true] at g
    have ih := any_of h f q2 g.2
    unfold inV at ih ⊢
    simp only [List.any_cons]
    rw [eqF_of q1 h g.1 f, ih]
theorem toKey_of {d : D} {k : Key} {v : V} (h : Rep K ι H d v) (e : toKey d = some k) : v = kV k := by
  cases d with
  | int i => cases e; exact rep_int h
  | str s => cases e; exact rep_str h
  | _ => cases e
theorem lookK_of {k : Key} : ∀ {kvs : List (Key × D)} {vs : List (Key × V)}, RepKs K ι H kvs vs → (lookK k kvs = none ∧ valV vs k = none) ∨ ∃ d v, lookK k kvs = some d ∧ valV vs k = some v ∧ Rep K ι H d v
  | [], vs, h => by
    simp only [RepKs] at h
    subst h
    exact .inl ⟨rfl, rfl⟩
  | p :: r, vs, h => by
    simp only [RepKs] at h
    obtain ⟨v, t, rfl, q, q'⟩ := h
    by_cases e : p.1 = k
    · refine .inr ⟨p.2, v, by simp [lookK, e], ?_, q⟩
      simp [valV, List.find?_cons, e]
    · have := lookK_of (k := k) q'
      simpa [lookK, e, valV, List.find?_cons] using this
theorem contains_of {k : Key} {kvs : List (Key × D)} {vs : List (Key × V)} (h : RepKs K ι H kvs vs) : (lookK k kvs).isSome = (valV vs k).isSome := by
  rcases lookK_of (k := k) h with ⟨a, b⟩ | ⟨d, v, a, b, _⟩ <;> rw [a, b] <;> rfl
end
section
variable {X : Cx}
def cD (o : Cop) : D → D → Mem → Option (D × Mem) := fun x y M => (cmpD o x y M).map fun b => (.bl b, M)
theorem cD_some {K : PySem.W.Frag} {ι : List Addr} {H : Hp} {o : Cop} {x y : D} {M : Mem} {Q : VK} (m : RepM K ι H M) (p : PostV K ι H (cD o x y M) Q) : ∃ b, cmpD o x y M = some b ∧ Q (.bl b) H := by
  unfold cD at p
  cases e : cmpD o x y M with
  | none => rw [e] at p; exact p.elim
  | some b => rw [e] at p; exact ⟨b, rfl, p.now m .bl⟩
theorem eqD_ok {pins : List (Addr × Obj)} {s : Shared} {σ : L2.St} {H : Hp} {x y : V} {v u : Value} {Q : VK} {ι : List Addr} {M : Mem} {dx dy : D} {b : Bool} (hu : X.A.units + 64 < cLine) (I : Inv X pins σ H s) (rx : RelV x v) (ry : RelV y u)
    (m : RepM X.K ι H M) (r1 : Rep X.K ι H dx x) (r2 : Rep X.K ι H dy y) (e : eqD M dx dy = some b) : (Q (.bl b) H → wpAny (model X.prog X.w) X.A (compareOp .Eq v u) (EP X pins σ Q) X.xe s) ∧ (Q (.bl (!b)) H → wpAny (model X.prog X.w) X.A (compareOp .NotEq v u) (EP X pins σ Q) X.xe s) := by
  have gen : ((toPM M dx).bind fun p => (toPM M dy).bind fun q => if SeqAt.shaped p && SeqAt.shaped q then some (PyData.eqv p q) else none) = some b → (Q (.bl b) H → wpAny (model X.prog X.w) X.A (compareOp .Eq v u) (EP X pins σ Q) X.xe s) ∧ (Q (.bl (!b)) H → wpAny (model X.prog X.w) X.A (compareOp .NotEq v u) (EP X pins σ Q) X.xe s) := by
    intro e
    cases e1 : toPM M dx with
    | none => rw [e1] at e; cases e
    | some p =>
      cases e2 : toPM M dy with
      | none => rw [e1, e2] at e; cases e
      | some q =>
        rw [e1, e2] at e
        simp only [Option.bind_some] at e
        split at e
        · rename_i hs
          cases e
          simp only [Bool.and_eq_true] at hs
          exact ⟨fun h => op_eqD hu pins s σ H x y v u Q I rx ry ⟨p, q, dpM_of m r1 e1, dpM_of m r2 e2, hs.1, hs.2, h⟩, fun h => op_neD hu pins s σ H x y v u Q I rx ry ⟨p, q, dpM_of m r1 e1, dpM_of m r2 e2, hs.1, hs.2, h⟩⟩
        · cases e
  cases dx with
  | int i =>
    cases dy with
    | int j =>
      cases e
      rw [rep_int r1] at rx; rw [rep_int r2] at ry
      exact ⟨fun h => op_eq pins s σ H _ _ v u Q I rx ry ⟨rfl, by rw [dec_int]; exact h⟩, fun h => op_ne pins s σ H _ _ v u Q I rx ry ⟨rfl, by rw [dec_int]; exact h⟩⟩
    | _ => exact gen e
  | str i =>
    cases dy with
    | str j =>
      cases e
      rw [rep_str r1] at rx; rw [rep_str r2] at ry
      have z : decide (V.str i = V.str j) = decide (i = j) := by
        rw [dec_str]
        by_cases w : i = j <;> simp [w]
      exact ⟨fun h => op_eq pins s σ H _ _ v u Q I rx ry ⟨rfl, by rw [z]; exact h⟩, fun h => op_ne pins s σ H _ _ v u Q I rx ry ⟨rfl, by rw [z]; exact h⟩⟩
    | _ => exact gen e
  | _ => exact gen e
theorem inD_ok {pins : List (Addr × Obj)} {s : Shared} {σ : L2.St} {H : Hp} {x y : V} {v u : Value} {Q : VK} {ι : List Addr} {M : Mem} {dx dy : D} {b : Bool} (hu : X.A.units + 64 < cLine) (I : Inv X pins σ H s) (rx : RelV x v) (ry : RelV y u)
    (m : RepM X.K ι H M) (r1 : Rep X.K ι H dx x) (r2 : Rep X.K ι H dy y) (e : inD M dx dy = some b) : (Q (.bl b) H → wpAny (model X.prog X.w) X.A (compareOp .In v u) (EP X pins σ Q) X.xe s) ∧ (Q (.bl (!b)) H → wpAny (model X.prog X.w) X.A (compareOp .NotIn v u) (EP X pins σ Q) X.xe s) := by
  have seq : ∀ {a : Addr} {vs : List V} {ds : List D}, y = .ref a → (SqL X.K H a vs ∨ SqT X.K H a vs) → Reps X.K ι H ds vs → (if flatD dx && ds.all flatD then some (ds.any fun y => eqF y dx) else none) = some b → (Q (.bl b) H → wpAny (model X.prog X.w) X.A (compareOp .In v u) (EP X pins σ Q) X.xe s) ∧ (Q (.bl (!b)) H → wpAny (model X.prog X.w) X.A (compareOp .NotIn v u) (EP X pins σ Q) X.xe s) := by
    intro a vs ds ey hs rs e
    split at e
    · rename_i hf
      simp only [Bool.and_eq_true] at hf
      cases e
      subst ey
      have z := any_of r1 hf.1 rs hf.2
      exact ⟨fun h => op_in_seq pins s σ H x _ v u Q I rx ry ⟨a, vs, rfl, hs, flat_of r1 hf.1, flats_of rs hf.2, by rw [if_neg Bool.false_ne_true, ← z]; exact h⟩, fun h => op_notIn_seq pins s σ H x _ v u Q I rx ry ⟨a, vs, rfl, hs, flat_of r1 hf.1, flats_of rs hf.2, by rw [if_pos rfl, ← z]; exact h⟩⟩
    · cases e
  cases dy with
  | tup ds =>
    obtain ⟨a, vs, ey, hs, rs⟩ := rep_tup r2
    exact seq ey (.inr hs) rs e
  | rol ds =>
    obtain ⟨a, vs, ey, hs, rs⟩ := rep_rol r2
    exact seq ey (.inl hs.l) rs e
  | cell n =>
    obtain ⟨a, ey, ha⟩ := rep_cell r2
    simp only [inD] at e
    split at e
    · rename_i ds hd
      have : lstAt M n = some ds := by unfold lstAt; rw [hd]
      obtain ⟨vs, h1, rs⟩ := lst_at m ha this
      exact seq ey (.inl (.of h1)) rs e
    · rename_i kvs hd
      obtain ⟨vs, h1, rs⟩ := dic_at m ha hd
      cases ek : toKey dx with
      | none => rw [ek] at e; cases e
      | some k =>
        rw [ek, Option.map_some] at e
        cases e
        have ex := toKey_of r1 ek
        subst ex ey
        obtain rfl : u = Value.ref a := ry
        have g := DGet.k (k := k) h1
        rw [contains_of rs]
        have hu1 : X.A.units + 1 < cLine := by omega
        exact ⟨fun h => d_in hu1 I g rx fun s' I' => ⟨.bl _, H, I', rfl, h⟩, fun h => d_notIn hu1 I g rx fun s' I' => ⟨.bl _, H, I', rfl, h⟩⟩
    · rename_i kvs hd
      obtain ⟨o, vs, h1, rs⟩ := frd_at m ha hd
      cases ek : toKey dx with
      | none => rw [ek] at e; cases e
      | some k =>
        rw [ek, Option.map_some] at e
        cases e
        have ex := toKey_of r1 ek
        subst ex ey
        obtain rfl : u = Value.ref a := ry
        have g := dget_rd (k := k) (.inr ⟨o, h1⟩)
        rw [contains_of rs]
        have hu1 : X.A.units + 1 < cLine := by omega
        exact ⟨fun h => d_in hu1 I g rx fun s' I' => ⟨.bl _, H, I', rfl, h⟩, fun h => d_notIn hu1 I g rx fun s' I' => ⟨.bl _, H, I', rfl, h⟩⟩
    · cases e
  | _ => cases e
def copE : Cop → CmpOp
  | .eq => .Eq | .ne => .NotEq | .lt => .Lt | .le => .LtE | .gt => .Gt | .ge => .GtE | .isn => .Is | .isnn => .IsNot | .isb => .Is | .isnb => .IsNot | .inn => .In | .nin => .NotIn
theorem is_bool {pins : List (Addr × Obj)} {s : Shared} {σ : L2.St} {H : Hp} {x : V} {v : Value} {Q : VK} {ι : List Addr} {dx : D} {b : Bool} (I : Inv X pins σ H s) (rx : RelV x v) (r1 : Rep X.K ι H dx x) :
    (Q (.bl (isBlD b dx)) H → wpAny (model X.prog X.w) X.A (compareOp .Is v (.bool b)) (EP X pins σ Q) X.xe s) ∧ (Q (.bl (!isBlD b dx)) H → wpAny (model X.prog X.w) X.A (compareOp .IsNot v (.bool b)) (EP X pins σ Q) X.xe s) := by
  have oth : ∀ {w : Value}, (Q (.bl (w == Value.bool b)) H → wpAny (model X.prog X.w) X.A (do let r ← (pure (w == Value.bool b) : Sem Bool); pure (Value.bool r)) (EP X pins σ Q) X.xe s) := fun {w} h => wpAny_bind (wpAny_pure (wpAny_pure ⟨.bl _, H, I, rfl, h⟩))
  have oth' : ∀ {w : Value}, (Q (.bl (!(w == Value.bool b))) H → wpAny (model X.prog X.w) X.A (do let r ← (pure (w == Value.bool b) : Sem Bool); pure (Value.bool (!r))) (EP X pins σ Q) X.xe s) := fun {w} h => wpAny_bind (wpAny_pure (wpAny_pure ⟨.bl _, H, I, rfl, h⟩))
  have hb : ∀ a : Bool, (Value.bool a == Value.bool b) = (a == b) := fun a => by cases a <;> cases b <;> rfl
  cases dx with
  | non => rw [rep_non r1] at rx; cases (show v = Value.none from rx); exact ⟨fun h => oth (w := .none) h, fun h => oth' (w := .none) h⟩
  | bl a => rw [rep_bl r1] at rx; cases (show v = Value.bool a from rx); exact ⟨fun h => oth (w := .bool a) (by rw [hb]; exact h), fun h => oth' (w := .bool a) (by rw [hb]; exact h)⟩
  | int i => rw [rep_int r1] at rx; obtain ⟨t, rfl⟩ := rx; exact ⟨fun h => oth (w := .int i t) h, fun h => oth' (w := .int i t) h⟩
  | str i => rw [rep_str r1] at rx; obtain ⟨t, rfl⟩ := rx; exact ⟨fun h => oth (w := .str i t) h, fun h => oth' (w := .str i t) h⟩
  | tup ds => obtain ⟨a, vs, rfl, _, _⟩ := rep_tup r1; cases (show v = Value.ref a from rx); exact ⟨fun h => oth (w := .ref a) h, fun h => oth' (w := .ref a) h⟩
  | rol ds => obtain ⟨a, vs, rfl, _, _⟩ := rep_rol r1; cases (show v = Value.ref a from rx); exact ⟨fun h => oth (w := .ref a) h, fun h => oth' (w := .ref a) h⟩
  | cell n => obtain ⟨a, rfl, _⟩ := rep_cell r1; cases (show v = Value.ref a from rx); exact ⟨fun h => oth (w := .ref a) h, fun h => oth' (w := .ref a) h⟩
theorem is_none {K : PySem.W.Frag} {ι : List Addr} {H : Hp} {x : V} {dx : D} (r1 : Rep K ι H dx x) : decide (x = .non) = isNonD dx := by
  cases dx with
  | non => rw [rep_non r1]; rfl
  | bl a => rw [rep_bl r1]; rfl
  | int i => rw [rep_int r1]; rfl
  | str i => rw [rep_str r1]; rfl
  | tup ds => obtain ⟨a, vs, rfl, _, _⟩ := rep_tup r1; rfl
  | rol ds => obtain ⟨a, vs, rfl, _, _⟩ := rep_rol r1; rfl
  | cell n => obtain ⟨a, rfl, _⟩ := rep_cell r1; rfl
theorem opr_cmp (hu : X.A.units + 64 < cLine) (o : Cop) : OpR X (compareOp (copE o)) (rD2 X.K (cD o)) := by
  intro pins s σ H x y v u Q I rx ry h
  obtain ⟨ι, M, dx, dy, m, r1, r2, p⟩ := h
  obtain ⟨b, e, q⟩ := cD_some m p
  cases o with
  | eq => exact (eqD_ok hu I rx ry m r1 r2 e).1 q
  | ne =>
    simp only [cmpD] at e
    cases e1 : eqD M dx dy with
    | none => rw [e1] at e; cases e
    | some c => rw [e1] at e; cases e; exact (eqD_ok hu I rx ry m r1 r2 e1).2 q
  | inn => exact (inD_ok hu I rx ry m r1 r2 e).1 q
  | nin =>
    simp only [cmpD] at e
    cases e1 : inD M dx dy with
    | none => rw [e1] at e; cases e
    | some c => rw [e1] at e; cases e; exact (inD_ok hu I rx ry m r1 r2 e1).2 q
  | isn =>
    cases dy <;> first | (cases dx <;> cases e; done) | skip
    rw [rep_non r2] at ry
    refine op_isN pins s σ H x _ v u Q I rx ry ⟨rfl, ?_⟩
    rw [is_none r1]
    have e' : some (isNonD dx) = some b := (by cases dx <;> exact e)
    cases e'
    exact q
  | isnn =>
    cases dy <;> first | (cases dx <;> cases e; done) | skip
    rw [rep_non r2] at ry
    refine op_notN pins s σ H x _ v u Q I rx ry ⟨rfl, ?_⟩
    rw [is_none r1]
    have e' : some (!isNonD dx) = some b := (by cases dx <;> exact e)
    cases e'
    exact q
  | isb =>
    cases dy <;> first | (cases dx <;> cases e; done) | skip
    rename_i c
    rw [rep_bl r2] at ry
    cases (show u = _ from ry)
    have e' : some (isBlD c dx) = some b := (by cases dx <;> exact e)
    cases e'
    exact (is_bool I rx r1).1 q
  | isnb =>
    cases dy <;> first | (cases dx <;> cases e; done) | skip
    rename_i c
    rw [rep_bl r2] at ry
    cases (show u = _ from ry)
    have e' : some (!isBlD c dx) = some b := (by cases dx <;> exact e)
    cases e'
    exact (is_bool I rx r1).2 q
  | lt =>
    cases dx <;> cases dy <;> first | (cases e; done) | skip
    rw [rep_int r1] at rx; rw [rep_int r2] at ry; cases e
    exact op_lt pins s σ H _ _ v u Q I rx ry ⟨_, _, rfl, rfl, q⟩
  | le =>
    cases dx <;> cases dy <;> first | (cases e; done) | skip
    rw [rep_int r1] at rx; rw [rep_int r2] at ry; cases e
    exact op_le pins s σ H _ _ v u Q I rx ry ⟨_, _, rfl, rfl, q⟩
  | gt =>
    cases dx <;> cases dy <;> first | (cases e; done) | skip
    rw [rep_int r1] at rx; rw [rep_int r2] at ry; cases e
    exact op_gt pins s σ H _ _ v u Q I rx ry ⟨_, _, rfl, rfl, q⟩
  | ge =>
    cases dx <;> cases dy <;> first | (cases e; done) | skip
    rw [rep_int r1] at rx; rw [rep_int r2] at ry; cases e
    exact op_ge pins s σ H _ _ v u Q I rx ry ⟨_, _, rfl, rfl, q⟩
end
end J

namespace J
open PySem PySem.Spec
open PyProof.Rows L2
section
variable {K : PySem.W.Frag} {ι : List Addr} {H : Hp} {M : Mem}
/-! ## truth, types -/
theorem ie_of {ds : List D} {vs : List V} (h : Reps K ι H ds vs) : (!ds.isEmpty) = !vs.isEmpty := by
  cases ds with
  | nil => rw [h.inv_nil]; rfl
  | cons d r => obtain ⟨v, t, rfl, _, _⟩ := h.inv_cons; rfl
theorem iek_of {ds : List (Key × D)} {vs : List (Key × V)} (h : RepKs K ι H ds vs) : (!ds.isEmpty) = !vs.isEmpty := by
  cases ds with
  | nil => simp only [RepKs] at h; rw [h]; rfl
  | cons d r => simp only [RepKs] at h; obtain ⟨v, t, rfl, _, _⟩ := h; rfl
theorem cell_at {n : Nat} {a : Addr} {c : Cell} (m : RepM K ι H M) (h : ι[n]? = some a) (e : M[n]? = some c) : CellRep K ι H a c := by
  obtain ⟨b, e', r⟩ := m.at_ _ _ e
  rw [h] at e'; cases e'
  exact r
theorem tru_of {d : D} {v : V} {k : Bool} (m : RepM K ι H M) (h : Rep K ι H d v) (e : truD M d = some k) : TruV K v H k := by
  cases d with
  | non => cases e; rw [rep_non h]; rfl
  | bl b => cases e; rw [rep_bl h]; rfl
  | int i => cases e; rw [rep_int h]; rfl
  | str s =>
    simp only [truD] at e
    split at e
    · rename_i hz
      cases e
      rw [rep_str h]
      exact ⟨sz hz, by cases s.length <;> rfl⟩
    · cases e
  | tup ds => cases e; obtain ⟨a, vs, rfl, q, r⟩ := rep_tup h; exact .inr (.inl ⟨vs, q, ie_of r⟩)
  | rol ds => cases e; obtain ⟨a, vs, rfl, q, r⟩ := rep_rol h; exact .inl ⟨vs, q.l, ie_of r⟩
  | cell n =>
    obtain ⟨a, rfl, ha⟩ := rep_cell h
    simp only [truD] at e
    split at e
    · rename_i hd
      cases e
      obtain ⟨vs, h1, rs⟩ := cell_at m ha hd
      exact .inl ⟨vs, .of h1, ie_of rs⟩
    · rename_i hd
      cases e
      obtain ⟨vs, h1, rs⟩ := cell_at m ha hd
      exact .inr (.inr ⟨vs, h1, iek_of rs⟩)
    · cases e
    · cases e
def tyN : Ty → String
  | .int => "int" | .bool => "bool" | .str => "str" | .tuple => "tuple" | .list => "list" | .dict => "dict"
def tyO : Option Ty → String
  | none => "NoneType"
  | some t => tyN t
theorem kit_all (o : Option Ty) (t : Ty) : kitB (tyO o) (tyN t) = some (isiT o t) := by
  cases o with
  | none => cases t <;> decide +kernel
  | some o => cases o <;> cases t <;> decide +kernel
theorem isi_of {d : D} {v : V} {t : Ty} {b : Bool} (m : RepM K ι H M) (h : Rep K ι H d v) (e : isiD M t d = some b) : ∃ n, TyX K H v (.type n) ∧ kitB n (tyN t) = some b := by
  cases d with
  | non => rw [rep_non h]; cases e; exact ⟨_, .base .non, kit_all none t⟩
  | bl b => rw [rep_bl h]; cases e; exact ⟨_, .base (.bl _), kit_all (some .bool) t⟩
  | int i => rw [rep_int h]; cases e; exact ⟨_, .base (.int _), kit_all (some .int) t⟩
  | str i => rw [rep_str h]; cases e; exact ⟨_, .base (.str _), kit_all (some .str) t⟩
  | tup ds =>
    obtain ⟨a, vs, rfl, q, r⟩ := rep_tup h
    cases e
    have z : TyX K H (.ref a) (.type "tuple") := by
      rcases q with (q | ⟨u, q⟩) | ⟨o, its, n, q, c, _⟩
      · exact .base (.tup q)
      · exact .fTuple q
      · exact .kTuple q c
    exact ⟨_, z, kit_all (some .tuple) t⟩
  | rol ds =>
    obtain ⟨a, vs, rfl, q, r⟩ := rep_rol h
    cases e
    have z : TyX K H (.ref a) (.type "list") := by
      rcases q with ⟨u, q⟩ | ⟨o, its, n, q, c, _⟩
      · exact .base (.frz q)
      · exact .kList q c
    exact ⟨_, z, kit_all (some .list) t⟩
  | cell n =>
    obtain ⟨a, rfl, ha⟩ := rep_cell h
    simp only [isiD] at e
    split at e
    · rename_i hn
      have hc := List.getElem?_eq_getElem hn
      cases hM : M[n] with
      | lst ds =>
        rw [hM] at hc
        obtain ⟨vs, h1, rs⟩ := cell_at m ha hc
        simp only [tyD, hc] at e
        cases e
        exact ⟨_, .base (.lst h1), kit_all (some .list) t⟩
      | dic ds =>
        rw [hM] at hc
        obtain ⟨vs, h1, rs⟩ := cell_at m ha hc
        simp only [tyD, hc] at e
        cases e
        exact ⟨_, .base (.dK h1), kit_all (some .dict) t⟩
      | frd ds =>
        rw [hM] at hc
        obtain ⟨o, vs, h1, rs⟩ := cell_at m ha hc
        simp only [tyD, hc] at e
        cases e
        exact ⟨_, .fDict h1, kit_all (some .dict) t⟩
    · cases e
theorem atI_of {ds : List D} {vs : List V} {j : Int} {d : D} (r : Reps K ι H ds vs) (e : atI ds j = some d) : ∃ v, atI vs j = some v ∧ Rep K ι H d v := by
  unfold atI at e ⊢
  rw [← r.length]
  cases h : ixN ds.length j with
  | none => rw [h] at e; cases e
  | some k =>
    rw [h] at e
    exact r.get e
theorem cut_of {ds : List D} {vs : List V} {lo hi : Option Int} (r : Reps K ι H ds vs) : Reps K ι H (cutD ds lo hi) (cutV vs lo hi) := by
  unfold cutD cutV
  rw [← r.length]
  exact (r.drop _).take _
end
section
variable {X : Cx}
theorem ixr : ∀ (hu : X.A.units + 1 < cLine), IxR X (rD2 X.K fun x y M => (ixD M x y).map fun d => (d, M)) := by
  intro hu value slice pins s σ H x y v u Q I rx ry h hs
  obtain ⟨ι, M, dx, dy, m, r1, r2, p⟩ := h
  cases e : ixD M dx dy with
  | none => simp only [e, Option.map_none] at p; exact p.elim
  | some d =>
    simp only [e, Option.map_some] at p
    have lst : ∀ {a : Addr} {vs : List V} {ds : List D} {j : Int}, x = .ref a → dy = .int j → SqL X.K H a vs → Reps X.K ι H ds vs → atI ds j = some d → wpAny (model X.prog X.w) X.A (subscriptTail value slice v u) (EP X pins σ Q) X.xe s := by
      intro a vs ds j ex ey q r ea
      obtain ⟨w, ew, rw'⟩ := atI_of r ea
      subst ex ey
      rw [rep_int r2] at ry
      exact ix_list value slice pins s σ H _ _ v u Q I rx ry ⟨a, vs, j, w, rfl, rfl, q, ew, p.now m rw'⟩ hs
    cases dx with
    | tup ds =>
      obtain ⟨a, vs, rfl, q, r⟩ := rep_tup r1
      cases dy <;> first | (cases e; done) | skip
      rename_i j
      obtain ⟨w, ew, rw'⟩ := atI_of r e
      rw [rep_int r2] at ry
      exact ix_tup value slice pins s σ H _ _ v u Q I rx ry ⟨a, vs, j, w, rfl, rfl, q, ew, p.now m rw'⟩ hs
    | rol ds =>
      obtain ⟨a, vs, rfl, q, r⟩ := rep_rol r1
      cases dy <;> first | (cases e; done) | skip
      exact lst rfl rfl q.l r e
    | str z =>
      cases dy <;> first | (cases e; done) | skip
      rename_i j
      simp only [ixD] at e
      split at e
      · rename_i hz
        cases ec : atI z.cps.toList j with
        | none => rw [ec] at e; cases e
        | some c =>
          rw [ec] at e; cases e
          rw [rep_str r1] at rx; rw [rep_int r2] at ry
          exact ix_str value slice pins s σ H _ _ v u Q I rx ry ⟨z, j, c, rfl, rfl, sz hz, ec, p.now m .str⟩ hs
      · cases e
    | cell n =>
      obtain ⟨a, rfl, ha⟩ := rep_cell r1
      simp only [ixD] at e
      split at e
      · rename_i ds hd
        obtain ⟨vs, h1, rs⟩ := cell_at m ha hd
        cases dy <;> first | (cases e; done) | skip
        exact lst rfl rfl (.of h1) rs e
      · rename_i kvs hd
        obtain ⟨vs, h1, rs⟩ := cell_at m ha hd
        cases ek : toKey dy with
        | none => rw [ek] at e; cases e
        | some k =>
          rw [ek, Option.bind_some] at e
          have ey := toKey_of r2 ek
          subst ey
          rcases lookK_of (k := k) rs with ⟨z, _⟩ | ⟨d', w, z1, z2, z3⟩
          · rw [z] at e; cases e
          · rw [z1] at e; cases e
            have g := DGet.k (k := k) h1
            rw [z2] at g
            obtain rfl : v = Value.ref a := rx
            exact tail_any (ops := [.ref a, u]) (dict_typeIs I g) PySem.F.slot_dict_getitem.lookup (d_getItem hu I g ry fun w' s3 I3 rw' => ⟨w, H, I3, rw', p.now m z3⟩) hs
      · rename_i kvs hd
        obtain ⟨o, vs, h1, rs⟩ := cell_at m ha hd
        cases ek : toKey dy with
        | none => rw [ek] at e; cases e
        | some k =>
          rw [ek, Option.bind_some] at e
          have ey := toKey_of r2 ek
          subst ey
          rcases lookK_of (k := k) rs with ⟨z, _⟩ | ⟨d', w, z1, z2, z3⟩
          · rw [z] at e; cases e
          · rw [z1] at e; cases e
            have g := dget_rd (k := k) (.inr ⟨o, h1⟩)
            rw [z2] at g
            obtain rfl : v = Value.ref a := rx
            exact tail_any (ops := [.ref a, u]) (dict_typeIs I g) PySem.F.slot_dict_getitem.lookup (d_getItem hu I g ry fun w' s3 I3 rw' => ⟨w, H, I3, rw', p.now m z3⟩) hs
      · cases e
    | _ => cases dy <;> cases e
end
end J

namespace J
open PySem PySem.Spec
open PyProof.Rows L2
theorem ext_tup (l : Addr) (items : Array Value) (n : Nat) (b : Addr) (ob : Obj) (items2 : Array Value) (n2 : Nat) (hs0 : ¬(!items.isEmpty && Builtin.List.listTooLong (items.size + items2.size)) = true) (hs1 : items.size ≤ sizeLine) (hs2 : items.size + items2.size ≤ sizeLine + 1) (hc : ob.cls = .type "tuple") (hd : ob.data = .seq items2 n2) :
    Meets (Builtin.«list.extend» ⟨[.ref l, .ref b], []⟩) (fun _ R s => s.heap.get? l = some { cls := .type "list", dict := none, data := .seq items n, slots := #[] } ∧ s.heap.get? b = some ob ∧ R (.ok (.ret Value.none)) { s with heap := s.heap.update l (Obj.mapSeq fun x => x ++ items2), toks := s.toks }) := by
  obtain ⟨c, dct, dat, sl⟩ := ob
  simp only at hc hd
  subst hc hd
  exact .of_wp fun prog w A R s h => by
    obtain ⟨hp, g, d, tk, os⟩ := s
    obtain ⟨hl, hb, h⟩ := h
    have f1 := AutoSeq1.idx_int
    have f2 := AutoSeq1.sub_tuple_tuple
    have f3 := AutoSeq1.sub_list_list
    have f4 := AutoSeq1.sub_tuple_list
    have f5 := AutoSeq1.sub_list_tuple
    have lim : (items ++ items2).size ≤ sizeLine + 1 := by
      rw [Array.size_append]
      exact hs2
    wp_walk using (wpAny_updateSeq hl rfl (hz := hs1) (_hz' := lim)), AutoSeq1.wpAny_loadPart' hl, AutoSeq1.wpAny_loadPart' hb
    exact ⟨_, rfl, h⟩
theorem mt_extendT {X : Cx} : MtM X "list.extend" (fun x vs H Q => ∃ l b xs zs, x = .ref l ∧ vs = [.ref b] ∧ H l = some (.lst xs) ∧ SqT X.K H b zs ∧ xs.length + zs.length ≤ sizeLine ∧ Q .non (upd H l (.lst (xs ++ zs)))) := by
  intro pins s σ H x vs v us Q I rx rv h
  obtain ⟨l, b, xs, zs, rfl, rfl, hH, hB, hz, q⟩ := h
  cases rx
  obtain ⟨u, rfl, ru⟩ := rv.one
  cases ru
  obtain ⟨z, its, n, r, hl, e⟩ := I.lstM hH
  obtain ⟨its2, r2, ⟨o2, e2, c2, n2, d2⟩, z2⟩ := I.tuple hB
  have hl2 := r2.length
  have hsz : its.toArray.size + its2.toArray.size ≤ sizeLine := by rw [List.size_toArray, List.size_toArray]; omega
  have hlong : ¬ (!its.toArray.isEmpty && Builtin.List.listTooLong (its.toArray.size + its2.toArray.size)) = true := by
    rw [notLongL hsz, Bool.and_false]
    exact Bool.false_ne_true
  refine call_meets F.slot_list_extend ⟨_, e, rfl⟩ F.entry_list_extend (F.args_list_extend_2 _ _) (ext_tup l its.toArray n b o2 its2.toArray n2 hlong (by rw [List.size_toArray]; omega) (by omega) c2 d2) ⟨e, e2, ?_⟩
  refine ⟨.non, _, I.lset (its' := its ++ its2) hH e (by simp) (r.append r2) ?_, rfl, q⟩
  rw [List.length_append]
  omega
end J

namespace J
open PySem PySem.Spec
open PyProof.Rows L2
section
variable {X : Cx}
/-! ## slices -/
theorem slr : SlR X fun x lo hi H Q => ∃ ι M dx, RepM X.K ι H M ∧ Rep X.K ι H dx x ∧ PostV X.K ι H (slD M lo hi dx) Q := by
  intro pins s σ H x v vl vu lo hi sl Q I rx hs pl pu h
  obtain ⟨ι, M, dx, m, r1, p⟩ := h
  cases dx with
  | tup ds =>
    obtain ⟨a, vs, rfl, q, r⟩ := rep_tup r1
    refine sl_tupA pins s σ H _ v vl vu lo hi sl Q I rx hs pl pu ⟨a, vs, rfl, q, fun hw => ?_, fun _ b hb => p.newT m (cut_of r) hb⟩
    have e : cutD ds lo hi = ds := by
      unfold cutD
      rw [r.length, hw.1, hw.2, Nat.sub_zero, List.drop_zero, ← r.length]
      exact List.take_length
    simp only [slD, e] at p
    exact p.now m r1
  | rol ds =>
    obtain ⟨a, vs, rfl, q, r⟩ := rep_rol r1
    exact sl_list pins s σ H _ v vl vu lo hi sl Q I rx hs pl pu ⟨a, vs, rfl, q.l, fun b hb => p.newL m (cut_of r) hb⟩
  | cell n =>
    obtain ⟨a, rfl, ha⟩ := rep_cell r1
    simp only [slD] at p
    cases e : lstAt M n with
    | none => rw [e] at p; exact p.elim
    | some ds =>
      rw [e] at p
      obtain ⟨vs, h1, r⟩ := lst_at m ha e
      exact sl_list pins s σ H _ v vl vu lo hi sl Q I rx hs pl pu ⟨a, vs, rfl, .of h1, fun b hb => p.newL m (cut_of r) hb⟩
  | _ => exact p.elim
/-! ## stores -/
theorem any_key {K : PySem.W.Frag} {ι : List Addr} {H : Hp} {k : Key} : ∀ {kvs : List (Key × D)} {vs : List (Key × V)}, RepKs K ι H kvs vs → (kvs.any fun p => decide (p.1 = k)) = (vs.any fun p => decide (p.1 = k))
  | [], vs, r => by simp only [RepKs] at r; subst r; rfl
  | p :: t, vs, r => by
    simp only [RepKs] at r
    obtain ⟨w, u, rfl, q, q'⟩ := r
    simp only [List.any_cons, any_key q']
theorem map_key {K : PySem.W.Frag} {ι : List Addr} {H : Hp} {k : Key} {d : D} {v : V} (h : Rep K ι H d v) : ∀ {kvs : List (Key × D)} {vs : List (Key × V)}, RepKs K ι H kvs vs →
    RepKs K ι H (kvs.map fun p => if p.1 = k then (p.1, d) else p) (vs.map fun p => if p.1 = k then (p.1, v) else p)
  | [], vs, r => by simp only [RepKs] at r; subst r; simp [RepKs]
  | p :: t, vs, r => by
    simp only [RepKs] at r
    obtain ⟨w, u, rfl, q, q'⟩ := r
    simp only [List.map_cons]
    by_cases e : p.1 = k
    · simp only [if_pos e, RepKs]
      exact ⟨v, _, rfl, h, map_key h q'⟩
    · simp only [if_neg e, RepKs]
      exact ⟨w, _, rfl, q, map_key h q'⟩
theorem RepKs.snoc {K : PySem.W.Frag} {ι : List Addr} {H : Hp} {k : Key} {d : D} {v : V} (h : Rep K ι H d v) : ∀ {kvs : List (Key × D)} {vs : List (Key × V)}, RepKs K ι H kvs vs → RepKs K ι H (kvs ++ [(k, d)]) (vs ++ [(k, v)])
  | [], vs, r => by simp only [RepKs] at r; subst r; simp only [List.nil_append, RepKs]; exact ⟨v, [], rfl, h, rfl⟩
  | p :: t, vs, r => by
    simp only [RepKs] at r
    obtain ⟨w, u, rfl, q, q'⟩ := r
    simp only [List.cons_append, RepKs]
    exact ⟨w, _, rfl, q, RepKs.snoc h q'⟩
theorem putK_of {K : PySem.W.Frag} {ι : List Addr} {H : Hp} {k : Key} {d : D} {v : V} {kvs : List (Key × D)} {vs : List (Key × V)} (h : Rep K ι H d v) (r : RepKs K ι H kvs vs) : RepKs K ι H (putKD k d kvs) (putK vs k v) := by
  unfold putKD putK
  rw [any_key r]
  split
  · exact map_key h r
  · exact r.snoc h
theorem mergeK_of {K : PySem.W.Frag} {ι : List Addr} {H : Hp} : ∀ {more : List (Key × D)} {ws : List (Key × V)} {kvs : List (Key × D)} {vs : List (Key × V)}, RepKs K ι H kvs vs → RepKs K ι H more ws → RepKs K ι H (mergeD kvs more) (mergeK vs ws)
  | [], ws, kvs, vs, r, q => by simp only [RepKs] at q; subst q; exact r
  | p :: t, ws, kvs, vs, r, q => by
    simp only [RepKs] at q
    obtain ⟨w, u, rfl, q1, q2⟩ := q
    exact mergeK_of (kvs := putKD p.1 p.2 kvs) (vs := putK vs p.1 w) (putK_of q1 r) q2
/-- o[i] = d -/
theorem setr (hu : X.A.units + 1 < cLine) : PSet X fun o i v H Q => ∃ ι M dx dy d M', RepM X.K ι H M ∧ Rep X.K ι H dx o ∧ Rep X.K ι H dy i ∧ Rep X.K ι H d v ∧ setD M dx dy d = some M' ∧ ∀ H', Step X.K ι H ι H' → RepM X.K ι H' M' → Q H' := by
  intro pins s σ H o i v ov iv u Q I ro ri rv h
  obtain ⟨ι, M, dx, dy, d, M', m, r1, r2, r3, e, q⟩ := h
  cases dx with
  | cell n =>
    obtain ⟨a, rfl, ha⟩ := rep_cell r1
    simp only [setD] at e
    split at e
    · rename_i ds hd
      obtain ⟨vs, h1, rs⟩ := cell_at m ha hd
      cases dy <;> first | (cases e; done) | skip
      rename_i j
      simp only at e
      cases ej : ixN ds.length j with
      | none => rw [ej] at e; cases e
      | some k =>
        rw [ej] at e; cases e
        rw [rep_int r2] at ri
        have st : Step X.K ι H ι (upd H a (.lst (vs.set k v))) := step_put ha h1 ⟨(fun _ z => nomatch z), (fun _ _ z => nomatch z)⟩
        exact set_list pins s σ H _ _ v ov iv u Q I ro ri rv ⟨a, vs, j, k, rfl, rfl, h1, by rw [← rs.length]; exact ej, q _ st (m.put ha st ⟨_, upd_same, (rs.set k r3).mono st⟩)⟩
    · rename_i kvs hd
      obtain ⟨vs, h1, rs⟩ := cell_at m ha hd
      cases ek : toKey dy with
      | none => rw [ek] at e; cases e
      | some k =>
        rw [ek, Option.bind_some] at e
        split at e
        · rename_i hz
          cases e
          have ey := toKey_of r2 ek
          subst ey
          obtain rfl : ov = Value.ref a := ro
          have st : Step X.K ι H ι (upd H a (.dK (putK vs k v))) := step_put ha h1 ⟨(fun _ z => nomatch z), (fun _ _ z => nomatch z)⟩
          exact d_setItem hu I (DPut.k (k := k) h1 (by rw [← rs.length]; exact szl hz)) ri rv fun s' I' => ⟨_, I', q _ st (m.put ha st ⟨_, upd_same, (putK_of r3 rs).mono st⟩)⟩
        · cases e
    · cases e
  | _ => cases dy <;> cases e
/-! ## calls of what is built in -/
theorem reps1 {K : PySem.W.Frag} {ι : List Addr} {H : Hp} {d : D} {vs : List V} (h : Reps K ι H [d] vs) : ∃ v, vs = [v] ∧ Rep K ι H d v := by
  obtain ⟨v, t, rfl, q, q'⟩ := h.inv_cons
  rw [q'.inv_nil]
  exact ⟨v, rfl, q⟩
theorem reps2 {K : PySem.W.Frag} {ι : List Addr} {H : Hp} {d e : D} {vs : List V} (h : Reps K ι H [d, e] vs) : ∃ v w, vs = [v, w] ∧ Rep K ι H d v ∧ Rep K ι H e w := by
  obtain ⟨v, t, rfl, q, q'⟩ := h.inv_cons
  obtain ⟨w, rfl, q2⟩ := reps1 q'
  exact ⟨v, w, rfl, q, q2⟩
theorem inv2 {A B : List D → Mem → Option (D × Mem)} : True := trivial
theorem strs_of {K : PySem.W.Frag} {ι : List Addr} {H : Hp} : ∀ {ds : List D} {vs : List V} {ys : List Str}, Reps K ι H ds vs → strsD ds = some ys → vs = ys.map V.str
  | [], vs, ys, r, e => by cases e; rw [r.inv_nil]; rfl
  | d :: t, vs, ys, r, e => by
    obtain ⟨v, u, rfl, q, q'⟩ := r.inv_cons
    cases d <;> first | (cases e; done) | skip
    simp only [strsD] at e
    cases es : strsD t with
    | none => rw [es] at e; cases e
    | some zs =>
      rw [es] at e; cases e
      rw [rep_str q, strs_of q' es]
      rfl
theorem idx_of {K : PySem.W.Frag} {ι : List Addr} {H : Hp} {x : D} {v : V} (hx : Rep K ι H x v) (f : flatD x = true) : ∀ {ds : List D} {vs : List V} {j : Nat}, Reps K ι H ds vs → ds.all flatD = true → idxD x ds = some j →
    ∃ z, vs[j]? = some z ∧ eqV z v = true ∧ ∀ (m : Nat) (z' : V), m < j → vs[m]? = some z' → eqV z' v = false
  | [], vs, j, r, g, e => by cases e
  | d :: t, vs, j, r, g, e => by
    obtain ⟨w, u, rfl, q, q'⟩ := r.inv_cons
    simp only [List.all_cons, Bool.and_eq_true] at g
    have z := eqF_of q hx g.1 f
    simp only [idxD] at e
    split at e
    · rename_i h
      cases e
      exact ⟨w, rfl, by rw [← z]; exact h, fun m z' hm _ => absurd hm (Nat.not_lt_zero _)⟩
    · rename_i h
      cases ej : idxD x t with
      | none => rw [ej] at e; cases e
      | some k =>
        rw [ej] at e; cases e
        obtain ⟨y, h1, h2, h3⟩ := idx_of hx f q' g.2 ej
        refine ⟨y, by simpa using h1, h2, fun m z' hm hz => ?_⟩
        cases m with
        | zero =>
          simp at hz
          subst hz
          rw [← z]
          simpa using h
        | succ m => exact h3 m z' (by simpa using hm) (by simpa using hz)
theorem callr_len : CallR X (.builtin "len") (rDs X.K (bltD .len)) := by
  intro pins s σ H xs us Q I r h
  obtain ⟨ι, M, ds, m, rs, p⟩ := h
  match ds, rs, p with
  | [.tup ds], rs, p =>
    obtain ⟨v, rfl, q⟩ := reps1 rs
    obtain ⟨a, vs, rfl, hs, rt⟩ := rep_tup q
    exact call_len_seq pins s σ H _ us Q I r ⟨a, vs, rfl, .inr hs, by rw [← rt.length]; exact p.now m .int⟩
  | [.rol ds], rs, p =>
    obtain ⟨v, rfl, q⟩ := reps1 rs
    obtain ⟨a, vs, rfl, hs, rt⟩ := rep_rol q
    exact call_len_seq pins s σ H _ us Q I r ⟨a, vs, rfl, .inl hs.l, by rw [← rt.length]; exact p.now m .int⟩
  | [.str z], rs, p =>
    obtain ⟨v, rfl, q⟩ := reps1 rs
    simp only [bltD] at p
    split at p
    · rename_i hz
      rw [rep_str q] at r
      exact call_len_str pins s σ H _ us Q I r ⟨z, rfl, sz hz, p.now m .int⟩
    · exact p.elim
  | [.cell n], rs, p =>
    obtain ⟨v, rfl, q⟩ := reps1 rs
    obtain ⟨a, rfl, ha⟩ := rep_cell q
    simp only [bltD] at p
    split at p
    · rename_i hd
      obtain ⟨vs, h1, rt⟩ := cell_at m ha hd
      exact call_len_seq pins s σ H _ us Q I r ⟨a, vs, rfl, .inl (.of h1), by rw [← rt.length]; exact p.now m .int⟩
    · rename_i hd
      obtain ⟨vs, h1, rt⟩ := cell_at m ha hd
      exact call_lenD pins s σ H _ us Q I r ⟨a, vs, rfl, h1, by rw [← rt.length]; exact p.now m .int⟩
    · exact p.elim
    · exact p.elim
  | [.non], rs, p => exact p.elim
  | [.bl _], rs, p => exact p.elim
  | [.int _], rs, p => exact p.elim
  | [], rs, p => exact p.elim
  | a :: b :: c, rs, p => cases a <;> exact p.elim
theorem callr_int : CallR X (.type "int") (rDs X.K (bltD .int)) := by
  intro pins s σ H xs us Q I r h
  obtain ⟨ι, M, ds, m, rs, p⟩ := h
  match ds, rs, p with
  | [.int i], rs, p =>
    obtain ⟨v, rfl, q⟩ := reps1 rs
    rw [rep_int q] at r
    exact call_int1 pins s σ H _ us Q I r (.inl ⟨i, rfl, p.now m .int⟩)
  | [.bl i], rs, p =>
    obtain ⟨v, rfl, q⟩ := reps1 rs
    rw [rep_bl q] at r
    exact call_int1 pins s σ H _ us Q I r (.inr ⟨i, rfl, p.now m .int⟩)
  | [.non], rs, p => exact p.elim
  | [.str _], rs, p => exact p.elim
  | [.tup _], rs, p => exact p.elim
  | [.rol _], rs, p => exact p.elim
  | [.cell _], rs, p => exact p.elim
  | [], rs, p => exact p.elim
  | a :: b :: c, rs, p => cases a <;> exact p.elim
theorem callr_tuple : CallR X (.type "tuple") (rDs X.K (bltD .tuple)) := by
  intro pins s σ H xs us Q I r h
  obtain ⟨ι, M, ds, m, rs, p⟩ := h
  match ds, rs, p with
  | [.tup ds], rs, p =>
    obtain ⟨v, rfl, q⟩ := reps1 rs
    have q' := q
    obtain ⟨a, vs, rfl, hs, rt⟩ := rep_tup q
    exact call_tuple_of pins s σ H _ us Q I r ⟨a, vs, rfl, .inr ⟨hs, p.now m q'⟩⟩
  | [.rol ds], rs, p =>
    obtain ⟨v, rfl, q⟩ := reps1 rs
    obtain ⟨a, vs, rfl, hs, rt⟩ := rep_rol q
    exact call_tuple_of pins s σ H _ us Q I r ⟨a, vs, rfl, .inl ⟨hs.l, fun l hl => p.newT m rt hl⟩⟩
  | [.cell n], rs, p =>
    obtain ⟨v, rfl, q⟩ := reps1 rs
    obtain ⟨a, rfl, ha⟩ := rep_cell q
    simp only [bltD] at p
    cases e : lstAt M n with
    | none => rw [e] at p; exact p.elim
    | some ds =>
      rw [e] at p
      obtain ⟨vs, h1, rt⟩ := lst_at m ha e
      exact call_tuple_of pins s σ H _ us Q I r ⟨a, vs, rfl, .inl ⟨.of h1, fun l hl => p.newT m rt hl⟩⟩
  | [.non], rs, p => exact p.elim
  | [.bl _], rs, p => exact p.elim
  | [.int _], rs, p => exact p.elim
  | [.str _], rs, p => exact p.elim
  | [], rs, p => exact p.elim
  | a :: b :: c, rs, p => cases a <;> exact p.elim
theorem callr_list : CallR X (.type "list") (rDs X.K (bltD .list)) := by
  intro pins s σ H xs us Q I r h
  obtain ⟨ι, M, ds, m, rs, p⟩ := h
  match ds, rs, p with
  | [.tup ds], rs, p =>
    obtain ⟨v, rfl, q⟩ := reps1 rs
    obtain ⟨a, vs, rfl, hs, rt⟩ := rep_tup q
    exact call_list_of pins s σ H _ us Q I r ⟨a, vs, rfl, .inr hs, fun l hl => p.newL m rt hl⟩
  | [.rol ds], rs, p =>
    obtain ⟨v, rfl, q⟩ := reps1 rs
    obtain ⟨a, vs, rfl, hs, rt⟩ := rep_rol q
    exact call_list_of pins s σ H _ us Q I r ⟨a, vs, rfl, .inl hs.l, fun l hl => p.newL m rt hl⟩
  | [.cell n], rs, p =>
    obtain ⟨v, rfl, q⟩ := reps1 rs
    obtain ⟨a, rfl, ha⟩ := rep_cell q
    simp only [bltD] at p
    cases e : lstAt M n with
    | none => rw [e] at p; exact p.elim
    | some ds =>
      rw [e] at p
      obtain ⟨vs, h1, rt⟩ := lst_at m ha e
      exact call_list_of pins s σ H _ us Q I r ⟨a, vs, rfl, .inl (.of h1), fun l hl => p.newL m rt hl⟩
  | [.non], rs, p => exact p.elim
  | [.bl _], rs, p => exact p.elim
  | [.int _], rs, p => exact p.elim
  | [.str _], rs, p => exact p.elim
  | [], rs, p => exact p.elim
  | a :: b :: c, rs, p => cases a <;> exact p.elim
theorem pairs_of {K : PySem.W.Frag} {ι : List Addr} {H : Hp} : ∀ {ds : List D} {vs : List V} {kvs : List (Key × D)}, Reps K ι H ds vs → pairsD ds = some kvs →
    ∃ (ps : List Addr) (ws : List (Key × V)), vs = ps.map V.ref ∧ Paired (fun p kv => SqT K H p [kV kv.1, kv.2]) ps ws ∧ RepKs K ι H kvs ws
  | [], vs, kvs, r, e => by cases e; exact ⟨[], [], r.inv_nil, .nil, by simp [RepKs]⟩
  | d :: t, vs, kvs, r, e => by
    obtain ⟨v, u, rfl, q, q'⟩ := r.inv_cons
    match d, q, e with
    | .tup [k, x], q, e =>
      simp only [pairsD] at e
      cases ek : toKey k with
      | none => rw [ek] at e; cases e
      | some kk =>
        rw [ek, Option.bind_some] at e
        cases et : pairsD t with
        | none => rw [et] at e; cases e
        | some more =>
          rw [et] at e; cases e
          obtain ⟨ps, ws, rfl, hp, hr⟩ := pairs_of q' et
          obtain ⟨a, ys, rfl, hs, hy⟩ := rep_tup q
          obtain ⟨y1, y2, rfl, r1, r2⟩ := reps2 hy
          rw [toKey_of r1 ek] at hs
          exact ⟨a :: ps, (kk, y2) :: ws, rfl, .cons hs hp, by simp only [RepKs]; exact ⟨y2, ws, rfl, r2, hr⟩⟩
    | .tup [], q, e => cases e
    | .tup [_], q, e => cases e
    | .tup (_ :: _ :: _ :: _), q, e => cases e
    | .non, q, e => cases e
    | .bl _, q, e => cases e
    | .int _, q, e => cases e
    | .str _, q, e => cases e
    | .rol _, q, e => cases e
    | .cell _, q, e => cases e
theorem callr_dict (hc : X.calm = true) : CallR X (.type "dict") (rDs X.K (bltD .dict)) := by
  intro pins s σ H xs us Q I r h
  obtain ⟨ι, M, ds, m, rs, p⟩ := h
  match ds, rs, p with
  | [.cell n], rs, p =>
    obtain ⟨v, rfl, q⟩ := reps1 rs
    obtain ⟨a, rfl, ha⟩ := rep_cell q
    simp only [bltD] at p
    cases e : lstAt M n with
    | none => rw [e] at p; exact p.elim
    | some ds =>
      rw [e, Option.bind_some] at p
      cases ep : pairsD ds with
      | none => rw [ep] at p; exact p.elim
      | some kvs =>
        rw [ep, Option.bind_some] at p
        split at p
        · obtain ⟨vs, h1, rt⟩ := lst_at m ha e
          obtain ⟨ps, ws, rfl, hp, hr⟩ := pairs_of rt ep
          exact call_dictP hc pins s σ H _ us Q I r ⟨a, ps, ws, rfl, .of h1, hp, fun l hl => p.newK m (mergeK_of (by simp [RepKs]) hr) hl⟩
        · exact p.elim
  | [.tup _], rs, p => exact p.elim
  | [.rol _], rs, p => exact p.elim
  | [.non], rs, p => exact p.elim
  | [.bl _], rs, p => exact p.elim
  | [.int _], rs, p => exact p.elim
  | [.str _], rs, p => exact p.elim
  | [], rs, p => exact p.elim
  | a :: b :: c, rs, p => cases a <;> exact p.elim
end
end J

namespace J
open PySem PySem.Spec
open PyProof.Rows L2
section
variable {X : Cx}
/-! ## methods of what is built in -/
theorem mtr_append : MtR X "list.append" (rDm X.K (mthD .append)) := by
  intro pins s σ H x xs v us Q I rx rs h
  obtain ⟨ι, M, d, ds, m, r1, r2, p⟩ := h
  match d, ds, r1, r2, p with
  | .cell n, [y], r1, r2, p =>
    obtain ⟨a, rfl, ha⟩ := rep_cell r1
    obtain ⟨w, rfl, rw'⟩ := reps1 r2
    simp only [mthD] at p
    cases e : lstAt M n with
    | none => rw [e] at p; exact p.elim
    | some es =>
      rw [e, Option.bind_some] at p
      obtain ⟨vs, h1, rt⟩ := lst_at m ha e
      split at p
      · rename_i hz
        exact mt_append pins s σ H _ _ v us Q I rx rs ⟨a, vs, w, rfl, rfl, h1, by rw [← rt.length]; exact szl hz, p.put m ha h1 (rt.append (.cons rw' .nil)) .non⟩
      · exact p.elim
  | .cell n, [], r1, r2, p => exact p.elim
  | .cell n, _ :: _ :: _, r1, r2, p => exact p.elim
  | .non, l, r1, r2, p => exact p.elim
  | .bl _, l, r1, r2, p => exact p.elim
  | .int _, l, r1, r2, p => exact p.elim
  | .str _, l, r1, r2, p => exact p.elim
  | .tup _, l, r1, r2, p => exact p.elim
  | .rol _, l, r1, r2, p => exact p.elim
theorem mtr_extend : MtR X "list.extend" (rDm X.K (mthD .extend)) := by
  intro pins s σ H x xs v us Q I rx rs h
  obtain ⟨ι, M, d, ds, m, r1, r2, p⟩ := h
  match d, ds, r1, r2, p with
  | .cell n, [.cell k], r1, r2, p =>
    obtain ⟨a, rfl, ha⟩ := rep_cell r1
    obtain ⟨w, rfl, rw'⟩ := reps1 r2
    obtain ⟨b, rfl, hb⟩ := rep_cell rw'
    simp only [mthD] at p
    cases e : lstAt M n with
    | none => rw [e] at p; exact p.elim
    | some es =>
      cases e2 : lstAt M k with
      | none => rw [e, e2] at p; exact p.elim
      | some fs =>
        rw [e, e2, Option.bind_some, Option.bind_some] at p
        obtain ⟨vs, h1, rt⟩ := lst_at m ha e
        obtain ⟨ws, h2, ru⟩ := lst_at m hb e2
        split at p
        · rename_i hz
          exact mt_extend pins s σ H _ _ v us Q I rx rs ⟨a, b, vs, ws, rfl, rfl, h1, h2, by rw [← rt.length, ← ru.length]; exact sz hz, p.put m ha h1 (rt.append ru) .non⟩
        · exact p.elim
  | .cell n, [.tup fs], r1, r2, p =>
    obtain ⟨a, rfl, ha⟩ := rep_cell r1
    obtain ⟨w, rfl, rw'⟩ := reps1 r2
    obtain ⟨b, ws, rfl, h2, ru⟩ := rep_tup rw'
    simp only [mthD] at p
    cases e : lstAt M n with
    | none => rw [e] at p; exact p.elim
    | some es =>
      rw [e, Option.bind_some] at p
      obtain ⟨vs, h1, rt⟩ := lst_at m ha e
      split at p
      · rename_i hz
        exact mt_extendT pins s σ H _ _ v us Q I rx rs ⟨a, b, vs, ws, rfl, rfl, h1, h2, by rw [← rt.length, ← ru.length]; exact sz hz, p.put m ha h1 (rt.append ru) .non⟩
      · exact p.elim
  | .cell n, [.non], r1, r2, p => exact p.elim
  | .cell n, [.bl _], r1, r2, p => exact p.elim
  | .cell n, [.int _], r1, r2, p => exact p.elim
  | .cell n, [.str _], r1, r2, p => exact p.elim
  | .cell n, [.rol _], r1, r2, p => exact p.elim
  | .cell n, [], r1, r2, p => exact p.elim
  | .cell n, a :: _ :: _, r1, r2, p => cases a <;> exact p.elim
  | .non, l, r1, r2, p => exact p.elim
  | .bl _, l, r1, r2, p => exact p.elim
  | .int _, l, r1, r2, p => exact p.elim
  | .str _, l, r1, r2, p => exact p.elim
  | .tup _, l, r1, r2, p => exact p.elim
  | .rol _, l, r1, r2, p => exact p.elim
theorem mtr_pop : MtR X "list.pop" (rDm X.K (mthD .pop)) := by
  intro pins s σ H x xs v us Q I rx rs h
  obtain ⟨ι, M, d, ds, m, r1, r2, p⟩ := h
  match d, ds, r1, r2, p with
  | .cell n, [], r1, r2, p =>
    obtain ⟨a, rfl, ha⟩ := rep_cell r1
    have e0 := r2.inv_nil
    subst e0
    simp only [mthD] at p
    cases e : lstAt M n with
    | none => rw [e] at p; exact p.elim
    | some es =>
      rw [e, Option.bind_some] at p
      obtain ⟨vs, h1, rt⟩ := lst_at m ha e
      cases e2 : es[es.length - 1]? with
      | none => rw [e2] at p; exact p.elim
      | some y =>
        rw [e2] at p
        obtain ⟨w, ew, rw'⟩ := rt.get e2
        exact mt_pop pins s σ H _ _ v us Q I rx rs ⟨a, vs, w, rfl, rfl, h1, by rw [← rt.length]; exact ew, p.put m ha h1 rt.dropLast rw'⟩
  | .cell n, _ :: _, r1, r2, p => exact p.elim
  | .non, l, r1, r2, p => exact p.elim
  | .bl _, l, r1, r2, p => exact p.elim
  | .int _, l, r1, r2, p => exact p.elim
  | .str _, l, r1, r2, p => exact p.elim
  | .tup _, l, r1, r2, p => exact p.elim
  | .rol _, l, r1, r2, p => exact p.elim
theorem mtr_index : MtR X "list.index" (rDm X.K (mthD .index)) := by
  intro pins s σ H x xs v us Q I rx rs h
  obtain ⟨ι, M, d, ds, m, r1, r2, p⟩ := h
  match d, ds, r1, r2, p with
  | .cell n, [y], r1, r2, p =>
    obtain ⟨a, rfl, ha⟩ := rep_cell r1
    obtain ⟨w, rfl, rw'⟩ := reps1 r2
    simp only [mthD] at p
    cases e : lstAt M n with
    | none => rw [e] at p; exact p.elim
    | some es =>
      rw [e, Option.bind_some] at p
      obtain ⟨vs, h1, rt⟩ := lst_at m ha e
      split at p
      · rename_i hz
        simp only [Bool.and_eq_true] at hz
        cases ej : idxD y es with
        | none => rw [ej] at p; exact p.elim
        | some j =>
          rw [ej] at p
          obtain ⟨z, h2, h3, h4⟩ := idx_of rw' hz.1 rt hz.2 ej
          exact mt_index pins s σ H _ _ v us Q I rx rs ⟨a, vs, w, j, z, rfl, rfl, .of h1, flat_of rw' hz.1, flats_of rt hz.2, h2, h3, h4, p.now m .int⟩
      · exact p.elim
  | .cell n, [], r1, r2, p => exact p.elim
  | .cell n, _ :: _ :: _, r1, r2, p => exact p.elim
  | .non, l, r1, r2, p => exact p.elim
  | .bl _, l, r1, r2, p => exact p.elim
  | .int _, l, r1, r2, p => exact p.elim
  | .str _, l, r1, r2, p => exact p.elim
  | .tup _, l, r1, r2, p => exact p.elim
  | .rol _, l, r1, r2, p => exact p.elim
theorem mtr_join : MtR X "str.join" (rDm X.K (mthD .join)) := by
  intro pins s σ H x xs v us Q I rx rs h
  obtain ⟨ι, M, d, ds, m, r1, r2, p⟩ := h
  have go : ∀ (z : Str) (y : D) (es : List D), d = .str z → ds = [y] → (∃ a vs, xs = [.ref a] ∧ (SqL X.K H a vs ∨ SqT X.K H a vs) ∧ Reps X.K ι H es vs) →
      PostV X.K ι H ((strsD es).bind fun (ys : List Str) => if (ys.map fun (z : Str) => z.length).sum + ys.length * z.length ≤ big then some (.str (Txt.join z ys), M) else none) Q →
      wpAny (model X.prog X.w) X.A (call (.builtin "str.join") (v :: us)) (EP X pins σ Q) X.xe s := by
    intro z y es e1 e2 hx pp
    clear p
    subst e1 e2
    obtain ⟨a, vs, rfl, hs, rt⟩ := hx
    cases e : strsD es with
    | none => rw [e] at pp; exact pp.elim
    | some ys =>
      rw [e, Option.bind_some] at pp
      split at pp
      · rename_i hz
        have ev := strs_of rt e
        subst ev
        rw [rep_str r1] at rx
        exact mt_join pins s σ H _ _ v us Q I rx rs ⟨z, a, ys, rfl, rfl, hs, hz, pp.now m .str⟩
      · exact pp.elim
  match d, ds, r1, r2, p, go with
  | .str z, [.tup es], r1, r2, p, go =>
    obtain ⟨w, rfl, rw'⟩ := reps1 r2
    obtain ⟨a, vs, rfl, hs, rt⟩ := rep_tup rw'
    exact go z _ es rfl rfl ⟨a, vs, rfl, .inr hs, rt⟩ p
  | .str z, [.rol es], r1, r2, p, go =>
    obtain ⟨w, rfl, rw'⟩ := reps1 r2
    obtain ⟨a, vs, rfl, hs, rt⟩ := rep_rol rw'
    exact go z _ es rfl rfl ⟨a, vs, rfl, .inl hs.l, rt⟩ p
  | .str z, [.cell n], r1, r2, p, go =>
    obtain ⟨w, rfl, rw'⟩ := reps1 r2
    obtain ⟨a, rfl, ha⟩ := rep_cell rw'
    simp only [mthD] at p
    cases e : lstAt M n with
    | none => rw [e] at p; exact p.elim
    | some es =>
      rw [e] at p
      obtain ⟨vs, h1, rt⟩ := lst_at m ha e
      exact go z _ es rfl rfl ⟨a, vs, rfl, .inl (.of h1), rt⟩ p
  | .str z, [.non], r1, r2, p, go => exact p.elim
  | .str z, [.bl _], r1, r2, p, go => exact p.elim
  | .str z, [.int _], r1, r2, p, go => exact p.elim
  | .str z, [.str _], r1, r2, p, go => exact p.elim
  | .str z, [], r1, r2, p, go => exact p.elim
  | .str z, _ :: _ :: _, r1, r2, p, go => exact p.elim
  | .cell n, l, r1, r2, p, go => exact p.elim
  | .non, l, r1, r2, p, go => exact p.elim
  | .bl _, l, r1, r2, p, go => exact p.elim
  | .int _, l, r1, r2, p, go => exact p.elim
  | .tup _, l, r1, r2, p, go => exact p.elim
  | .rol _, l, r1, r2, p, go => exact p.elim
theorem dicAt_eq {M : Mem} {n : Nat} {kvs : List (Key × D)} (e : dicAt M n = some kvs) : M[n]? = some (.dic kvs) := by
  unfold dicAt at e
  split at e
  · rename_i h; cases e; exact h
  · cases e
theorem mtr_get (hu : X.A.units + 1 < cLine) : MtR X "dict.get" (rDm X.K (mthD .get)) := by
  intro pins s σ H x xs v us Q I rx rs h
  obtain ⟨ι, M, d, ds, m, r1, r2, p⟩ := h
  match d, ds, r1, r2, p with
  | .cell n, [y], r1, r2, p =>
    obtain ⟨a, rfl, ha⟩ := rep_cell r1
    obtain ⟨w, rfl, rw'⟩ := reps1 r2
    simp only [mthD] at p
    cases e : dicAt M n with
    | none => rw [e] at p; exact p.elim
    | some kvs =>
      rw [e, Option.bind_some] at p
      obtain ⟨vs, h1, rt⟩ := dic_at m ha (dicAt_eq e)
      cases ek : toKey y with
      | none => rw [ek] at p; exact p.elim
      | some k =>
        rw [ek, Option.map_some] at p
        have ew := toKey_of rw' ek
        subst ew
        obtain rfl : v = Value.ref a := rx
        obtain ⟨u, rfl, ru⟩ := vals1 rs
        refine d_get1 hu I (DGet.k (k := k) h1) ru fun w' s' I' rw2 => ⟨_, H, I', rw2, ?_⟩
        rcases lookK_of (k := k) rt with ⟨z1, z2⟩ | ⟨d', w2, z1, z2, z3⟩
        · rw [z2]; simp only [z1] at p; exact p.now m .non
        · rw [z2]; simp only [z1] at p; exact p.now m z3
  | .cell n, [y, z], r1, r2, p =>
    obtain ⟨a, rfl, ha⟩ := rep_cell r1
    obtain ⟨w, w3, rfl, rw', r3⟩ := reps2 r2
    simp only [mthD] at p
    cases e : dicAt M n with
    | none => rw [e] at p; exact p.elim
    | some kvs =>
      rw [e, Option.bind_some] at p
      obtain ⟨vs, h1, rt⟩ := dic_at m ha (dicAt_eq e)
      cases ek : toKey y with
      | none => rw [ek] at p; exact p.elim
      | some k =>
        rw [ek, Option.map_some] at p
        have ew := toKey_of rw' ek
        subst ew
        obtain rfl : v = Value.ref a := rx
        obtain ⟨u, u2, rfl, ru, ru2⟩ := vals2 rs
        refine d_get2 hu I (DGet.k (k := k) h1) ru ru2 fun w' s' I' rw2 => ⟨_, H, I', rw2, ?_⟩
        rcases lookK_of (k := k) rt with ⟨z1, z2⟩ | ⟨d', w2, z1, z2, z4⟩
        · rw [z2]; simp only [z1] at p; exact p.now m r3
        · rw [z2]; simp only [z1] at p; exact p.now m z4
  | .cell n, [], r1, r2, p => exact p.elim
  | .cell n, _ :: _ :: _ :: _, r1, r2, p => exact p.elim
  | .non, l, r1, r2, p => exact p.elim
  | .bl _, l, r1, r2, p => exact p.elim
  | .int _, l, r1, r2, p => exact p.elim
  | .str _, l, r1, r2, p => exact p.elim
  | .tup _, l, r1, r2, p => exact p.elim
  | .rol _, l, r1, r2, p => exact p.elim
def mthT : Mth → String
  | .join => "str"
  | .get => "dict"
  | _ => "list"
theorem mthOk_ty {K : PySem.W.Frag} {ι : List Addr} {H : Hp} {M : Mem} {mt : Mth} {x : D} {v : V} (m : RepM K ι H M) (r : Rep K ι H x v) (e : mthOk M mt x = true) : tyV K (mthT mt) v H := by
  have lst : isLst M x = true → tyV K "list" v H := by
    clear e
    intro e
    cases x <;> first | (cases e; done) | skip
    rename_i n
    obtain ⟨a, rfl, ha⟩ := rep_cell r
    simp only [isLst] at e
    cases e1 : lstAt M n with
    | none => rw [e1] at e; cases e
    | some ds =>
      obtain ⟨vs, h1, _⟩ := lst_at m ha e1
      exact .inl ⟨rfl, vs, .of h1⟩
  cases mt with
  | join =>
    simp only [mthOk] at e
    cases x <;> first | (cases e; done) | skip
    rw [rep_str r]; rfl
  | get =>
    simp only [mthOk] at e
    cases x <;> first | (cases e; done) | skip
    rename_i n
    obtain ⟨a, rfl, ha⟩ := rep_cell r
    simp only [isDic] at e
    cases e1 : dicAt M n with
    | none => rw [e1] at e; cases e
    | some ds =>
      obtain ⟨vs, h1, _⟩ := dic_at m ha (dicAt_eq e1)
      exact .inr (.inr (.inl ⟨rfl, .inl ⟨vs, h1⟩⟩))
  | append => exact lst e
  | extend => exact lst e
  | pop => exact lst e
  | index => exact lst e
/-! ## op= -/
def augE : Bop → Operator := bopE
theorem pip_aug (o : Bop) : PIp X (bopE o) (rD2 X.K (augD o)) := by
  intro pins s σ H x y v u Q I rx ry h
  obtain ⟨ι, M, dx, dy, m, r1, r2, p⟩ := h
  cases o with
  | add =>
    cases dx with
    | int i =>
      cases dy <;> first | (exact p.elim) | skip
      rw [rep_int r1] at rx; rw [rep_int r2] at ry
      exact iop_add pins s σ H _ _ v u Q I rx ry ⟨_, _, rfl, rfl, p.now m .int⟩
    | str i =>
      cases dy <;> first | (exact p.elim) | skip
      simp only [augD] at p
      split at p
      · rename_i hz
        rw [rep_str r1] at rx; rw [rep_str r2] at ry
        exact iop_add_str pins s σ H _ _ v u Q I rx ry ⟨_, _, rfl, rfl, sz hz, p.now m .str⟩
      · exact p.elim
    | cell n =>
      cases dy <;> first | (exact p.elim) | skip
      rename_i k
      simp only [augD] at p
      cases e1 : lstAt M n with
      | none => rw [e1] at p; exact p.elim
      | some xs =>
        cases e2 : lstAt M k with
        | none => rw [e1, e2] at p; exact p.elim
        | some ys =>
          rw [e1, e2] at p
          simp only [Option.bind_some] at p
          split at p
          · rename_i hz
            obtain ⟨a, rfl, ha⟩ := rep_cell r1
            obtain ⟨b, rfl, hb⟩ := rep_cell r2
            obtain ⟨vs, h1, rs⟩ := lst_at m ha e1
            obtain ⟨ws, h2, rt⟩ := lst_at m hb e2
            exact iop_ext pins s σ H _ _ v u Q I rx ry ⟨a, b, vs, ws, rfl, rfl, h1, h2, by rw [← rs.length, ← rt.length]; exact sz hz, p.put m ha h1 (rs.append rt) r1⟩
          · exact p.elim
    | _ => cases dy <;> exact p.elim
  | sub =>
    cases dx <;> cases dy <;> first | (exact p.elim) | skip
    rw [rep_int r1] at rx; rw [rep_int r2] at ry
    exact iop_sub pins s σ H _ _ v u Q I rx ry ⟨_, _, rfl, rfl, p.now m .int⟩
  | _ => cases dx <;> cases dy <;> exact p.elim
end
end J

namespace J
open PySem PySem.Spec
open PyProof.Rows L2
/-! ## readings of the parts of an expression -/
section
variable {K : PySem.W.Frag} {ex : Exs} {W : WX} {σ : L2.St} {H : Hp}
theorem one_of {β γ : Type} {rel : List Addr → Hp → γ → β → Prop} {fa : Rho → Mem → R D} {h : D → Mem → R γ} {Q : β → Hp → Prop} {ι : List Addr} {ρ : Rho} {M : Mem} (m : RepM K ι H M) (r : RepRho K ι H ρ σ)
    (p : Post K ex rel (fun c d H => W c d σ H) ι H ((fa ρ M).bind h) Q) : tE K ex W fa σ H fun x H1 => ∃ ι1 M1 d, RepM K ι1 H1 M1 ∧ RepRho K ι1 H1 ρ σ ∧ Rep K ι1 H1 d x ∧ Post K ex rel (fun c d H => W c d σ H) ι1 H1 (h d M1) Q := by
  refine ⟨ι, ρ, M, m, r, p.seq.imp ?_⟩
  rintro x H1 ⟨d, ι1, M1, st, m1, rx, e, p1⟩
  exact ⟨ι1, M1, d, m1, r.mono st, rx, p1⟩
theorem two_of {β γ : Type} {rel : List Addr → Hp → γ → β → Prop} {fa fb : Rho → Mem → R D} {h : D → D → Mem → R γ} {Q : β → Hp → Prop} {ι : List Addr} {ρ : Rho} {M : Mem} (m : RepM K ι H M) (r : RepRho K ι H ρ σ)
    (p : Post K ex rel (fun c d H => W c d σ H) ι H ((fa ρ M).bind fun x M => (fb ρ M).bind fun y M => h x y M) Q) :
    tE K ex W fa σ H fun x H1 => tE K ex W fb σ H1 fun y H2 => ∃ ι2 M2 dx dy, RepM K ι2 H2 M2 ∧ RepRho K ι2 H2 ρ σ ∧ Rep K ι2 H2 dx x ∧ Rep K ι2 H2 dy y ∧ Post K ex rel (fun c d H => W c d σ H) ι2 H2 (h dx dy M2) Q := by
  refine ⟨ι, ρ, M, m, r, p.seq.imp ?_⟩
  rintro x H1 ⟨d, ι1, M1, st, m1, rx, e, p1⟩
  refine ⟨ι1, ρ, M1, m1, r.mono st, p1.seq.imp ?_⟩
  rintro y H2 ⟨d2, ι2, M2, st2, m2, ry, e2, p2⟩
  exact ⟨ι2, M2, d, d2, m2, (r.mono st).mono st2, rx.mono st2, ry, p2⟩
theorem args_of {β γ : Type} {rel : List Addr → Hp → γ → β → Prop} {fa : Rho → Mem → R (List D)} {h : List D → Mem → R γ} {Q : β → Hp → Prop} {ι : List Addr} {ρ : Rho} {M : Mem} (m : RepM K ι H M) (r : RepRho K ι H ρ σ)
    (p : Post K ex rel (fun c d H => W c d σ H) ι H ((fa ρ M).bind h) Q) : tA K ex W fa σ H fun xs H1 => ∃ ι1 M1 ds, RepM K ι1 H1 M1 ∧ RepRho K ι1 H1 ρ σ ∧ Reps K ι1 H1 ds xs ∧ Post K ex rel (fun c d H => W c d σ H) ι1 H1 (h ds M1) Q := by
  refine ⟨ι, ρ, M, m, r, p.seq.imp ?_⟩
  rintro x H1 ⟨d, ι1, M1, st, m1, rx, e, p1⟩
  exact ⟨ι1, M1, d, m1, r.mono st, rx, p1⟩
theorem test_of {β γ : Type} {rel : List Addr → Hp → γ → β → Prop} {fa : Rho → Mem → R Bool} {h : Bool → Mem → R γ} {Q : β → Hp → Prop} {ι : List Addr} {ρ : Rho} {M : Mem} (m : RepM K ι H M) (r : RepRho K ι H ρ σ)
    (p : Post K ex rel (fun c d H => W c d σ H) ι H ((fa ρ M).bind h) Q) : tT K ex W fa σ H fun b H1 => ∃ ι1 M1, RepM K ι1 H1 M1 ∧ RepRho K ι1 H1 ρ σ ∧ Post K ex rel (fun c d H => W c d σ H) ι1 H1 (h b M1) Q := by
  refine ⟨ι, ρ, M, m, r, p.seq.imp ?_⟩
  rintro x H1 ⟨d, ι1, M1, st, m1, rx, e, p1⟩
  have rx : d = x := rx
  subst rx
  exact ⟨ι1, M1, m1, r.mono st, p1⟩
end
section
variable {X : Cx} {ex : Exs} {W : WX} {a b c e : Expr} {es : List Expr} {fa fb fc : Rho → Mem → R D} {ta tb tc : Rho → Mem → R Bool} {fs : Rho → Mem → R (List D)} {pos : Pos}
abbrev PEx (X : Cx) (ex : Exs) (W : WX) (e : Expr) (f : Rho → Mem → R D) : Prop := PE X e (tE X.K ex W f)
abbrev PTx (X : Cx) (ex : Exs) (W : WX) (e : Expr) (f : Rho → Mem → R Bool) : Prop := PT X e (tT X.K ex W f)
abbrev PAx (X : Cx) (ex : Exs) (W : WX) (e : List Expr) (f : Rho → Mem → R (List D)) : Prop := PA X e (tA X.K ex W f)
theorem e_var {i : Nat} {x : Str} (hN : X.N[i]? = some x) (hv : Vis X.env.scope x) (hd : (x == ("__debug__" : Str)) = false) (hcd : (x == ("__classdict__" : Str)) = false) : PEx X ex W (.Name x pos) fun ρ M => match ρ[i]? with | some (some d) => .ok d M | _ => .bad := by
  refine (pe_var hN hv hd hcd).imp ?_
  rintro σ H Q ⟨ι, ρ, M, m, r, p⟩
  dsimp only at p
  split at p
  · rename_i d hd
    obtain ⟨v, e, q⟩ := r.at_ i d hd
    exact ⟨v, e, p.now m q⟩
  · exact p.elim
theorem e_con {d : D} {v : V} (h : PE X e (tC v)) (hr : ∀ ι H, Rep X.K ι H d v) : PEx X ex W e fun _ M => .ok d M := by
  refine h.imp ?_
  rintro σ H Q ⟨ι, ρ, M, m, r, p⟩
  exact p.now m (hr _ _)
theorem e_bin {op : Operator} {g : D → D → Mem → Option (D × Mem)} (ho : OpR X (binaryOp op) (rD2 X.K g)) (ha : PEx X ex W a fa) (hb : PEx X ex W b fb) : PEx X ex W (.BinOp a op b pos) fun ρ M => (fa ρ M).bind fun x M => (fb ρ M).bind fun y M => ofO (g x y M) := by
  refine (pe_op ho ha hb).imp ?_
  rintro σ H Q ⟨ι, ρ, M, m, r, p⟩
  obtain ⟨ι0, ρ0, M0, m0, r0, p0⟩ := two_of m r p
  refine ⟨ι0, ρ0, M0, m0, r0, p0.imp ?_⟩
  rintro x H1 ⟨ι1, ρ1, M1, m1, r1, p1⟩
  refine ⟨ι1, ρ1, M1, m1, r1, p1.imp ?_⟩
  rintro y H2 ⟨ι2, M2, dx, dy, m2, _, rx, ry, p2⟩
  exact ⟨ι2, M2, dx, dy, m2, rx, ry, .of p2⟩
theorem cmp_val {K : PySem.W.Frag} {W : Value → Option Addr → Hp → Prop} {ι : List Addr} {H : Hp} {M : Mem} {o : Cop} {x y : D} {Q : VK} (p : Post K ex (Rep K) W ι H (valO M ((cmpD o x y M).map .bl)) Q) : PostV K ι H (cD o x y M) Q := by
  have z := PostV.val p
  unfold cD
  cases h : cmpD o x y M with
  | none => rw [h] at z; exact z
  | some k => rw [h] at z; exact z
/-- what gives a truth value -/
def BoolF (f : Rho → Mem → R D) : Prop := ∀ ρ M d M', f ρ M = .ok d M' → ∃ b, d = .bl b
theorem tt_of {K : PySem.W.Frag} {f : Rho → Mem → R D} (hf : BoolF f) {σ : L2.St} {H : Hp} {Q : Bool → Hp → Prop} (p : tT K ex W (fun ρ M => (f ρ M).bind fun x M => valO M (truD M x)) σ H Q) : tE K ex W f σ H fun x H' => ∃ k, x = .bl k ∧ Q k H' := by
  obtain ⟨ι, ρ, M, m, r, p⟩ := p
  refine ⟨ι, ρ, M, m, r, p.seq.imp ?_⟩
  rintro x H1 ⟨d, ι1, M1, st, m1, rx, e, p1⟩
  obtain ⟨b, rfl⟩ := hf _ _ _ _ e
  rw [rep_bl rx]
  exact ⟨b, rfl, p1.now m1 rfl⟩
def semCmp (o : Cop) (fa fb : Rho → Mem → R D) : Rho → Mem → R D := fun ρ M => (fa ρ M).bind fun x M => (fb ρ M).bind fun y M => valO M ((cmpD o x y M).map .bl)
theorem bool_cmp {o : Cop} : BoolF (semCmp o fa fb) := by
  intro ρ M d M' h
  unfold semCmp at h
  cases ha : fa ρ M with
  | ok x M1 =>
    rw [ha] at h
    simp only [R.bind] at h
    cases hb : fb ρ M1 with
    | ok y M2 =>
      rw [hb] at h
      simp only at h
      cases hc : cmpD o x y M2 with
      | none => rw [hc] at h; cases h
      | some k => rw [hc] at h; cases h; exact ⟨k, rfl⟩
    | err c as M1 => rw [hb] at h; cases h
    | bad => rw [hb] at h; cases h
  | err c as M1 => rw [ha] at h; cases h
  | bad => rw [ha] at h; cases h
theorem rd_cmp {K : PySem.W.Frag} {o : Cop} {σ : L2.St} {H : Hp} {Q : VK} (p : tE K ex W (semCmp o fa fb) σ H Q) : tOp (rD2 K (cD o)) (tE K ex W fa) (tE K ex W fb) σ H Q := by
  obtain ⟨ι, ρ, M, m, r, p⟩ := p
  obtain ⟨ι0, ρ0, M0, m0, r0, p0⟩ := two_of m r p
  refine ⟨ι0, ρ0, M0, m0, r0, p0.imp ?_⟩
  rintro x H1 ⟨ι1, ρ1, M1, m1, r1, p1⟩
  refine ⟨ι1, ρ1, M1, m1, r1, p1.imp ?_⟩
  rintro y H2 ⟨ι2, M2, dx, dy, m2, _, rx, ry, p2⟩
  exact ⟨ι2, M2, dx, dy, m2, rx, ry, cmp_val p2⟩
theorem e_cmp {o : Cop} (ho : OpR X (compareOp (copE o)) (rD2 X.K (cD o))) (ha : PEx X ex W a fa) (hb : PEx X ex W b fb) (hm : behindInMarks (copE o) b = false) : PEx X ex W (.Compare a [copE o] [b] pos) (semCmp o fa fb) :=
  (pe_cmpR ho ha hb hm).imp fun _ _ _ p => rd_cmp p
theorem t_cmp {o : Cop} (ho : OpR X (compareOp (copE o)) (rD2 X.K (cD o))) (ha : PEx X ex W a fa) (hb : PEx X ex W b fb) (hm : behindInMarks (copE o) b = false) :
    PTx X ex W (.Compare a [copE o] [b] pos) fun ρ M => (semCmp o fa fb ρ M).bind fun x M => valO M (truD M x) :=
  (pt_cmpR ho ha hb hm).imp fun _ _ _ p => rd_cmp (tt_of bool_cmp p)
def semCmp2 (o o' : Cop) (fa fb fc : Rho → Mem → R D) : Rho → Mem → R D := fun ρ M => (fa ρ M).bind fun x M => (fb ρ M).bind fun y M => (valO M (cmpD o x y M)).bind fun k M => if k then (fc ρ M).bind fun z M => valO M ((cmpD o' y z M).map .bl) else .ok (.bl false) M
theorem bool_cmp2 {o o' : Cop} : BoolF (semCmp2 o o' fa fb fc) := by
  intro ρ M d M' h
  unfold semCmp2 at h
  cases ha : fa ρ M with
  | ok x M1 =>
    rw [ha] at h
    simp only [R.bind] at h
    cases hb : fb ρ M1 with
    | ok y M2 =>
      rw [hb] at h
      simp only at h
      cases hc : cmpD o x y M2 with
      | none => rw [hc] at h; cases h
      | some k =>
        rw [hc] at h
        simp only [valO] at h
        cases k with
        | false => simp only [Bool.false_eq_true, if_false] at h; cases h; exact ⟨_, rfl⟩
        | true =>
          simp only [if_true] at h
          cases hd : fc ρ M2 with
          | ok z M3 =>
            rw [hd] at h
            simp only at h
            cases he : cmpD o' y z M3 with
            | none => rw [he] at h; cases h
            | some k => rw [he] at h; cases h; exact ⟨k, rfl⟩
          | err c as M1 => rw [hd] at h; cases h
          | bad => rw [hd] at h; cases h
    | err c as M1 => rw [hb] at h; cases h
    | bad => rw [hb] at h; cases h
  | err c as M1 => rw [ha] at h; cases h
  | bad => rw [ha] at h; cases h
theorem rd_cmp2 {K : PySem.W.Frag} {o o' : Cop} {σ : L2.St} {H : Hp} {Q : VK} (p : tE K ex W (semCmp2 o o' fa fb fc) σ H Q) : tChain (rD2 K (cD o)) (rD2 K (cD o')) (tE K ex W fa) (tE K ex W fb) (tE K ex W fc) σ H Q := by
  obtain ⟨ι, ρ, M, m, r, p⟩ := p
  refine ⟨ι, ρ, M, m, r, p.seq.imp ?_⟩
  rintro x H1 ⟨dx, ι1, M1, st1, m1, rx, _, p1⟩
  refine ⟨ι1, ρ, M1, m1, r.mono st1, p1.seq.imp ?_⟩
  rintro y H2 ⟨dy, ι2, M2, st2, m2, ry, _, p2⟩
  refine ⟨ι2, M2, dx, dy, m2, rx.mono st2, ry, ?_⟩
  unfold cD
  cases h : cmpD o dx dy M2 with
  | none => rw [h] at p2; exact p2
  | some k =>
    rw [h] at p2
    refine fun ι' H' v st m' rv => ?_
    rw [rep_bl rv]
    refine ⟨k, rfl, ?_⟩
    have p3 := p2.at st
    cases k with
    | false => exact p3.now m' .bl
    | true =>
      have p3 : Post K ex (Rep K) (fun c d H => W c d σ H) ι' H' ((fc ρ M2).bind fun z M => valO M ((cmpD o' dy z M).map D.bl)) Q := p3
      simp only [if_true]
      refine ⟨ι', ρ, M2, m', ((r.mono st1).mono st2).mono st, p3.seq.imp ?_⟩
      rintro z H3 ⟨dz, ι3, M3, st3, m3, rz, _, p4⟩
      exact ⟨ι3, M3, dy, dz, m3, (ry.mono st).mono st3, rz, cmp_val p4⟩
theorem e_cmp2 {o o' : Cop} (ho : OpR X (compareOp (copE o)) (rD2 X.K (cD o))) (ho' : OpR X (compareOp (copE o')) (rD2 X.K (cD o'))) (ha : PEx X ex W a fa) (hb : PEx X ex W b fb) (hc : PEx X ex W c fc) (hm : lastMarks [copE o, copE o'] [b, c] = false) :
    PEx X ex W (.Compare a [copE o, copE o'] [b, c] pos) (semCmp2 o o' fa fb fc) := (pe_chain ho ho' ha hb hc hm).imp fun _ _ _ p => rd_cmp2 p
theorem t_cmp2 {o o' : Cop} (ho : OpR X (compareOp (copE o)) (rD2 X.K (cD o))) (ho' : OpR X (compareOp (copE o')) (rD2 X.K (cD o'))) (ha : PEx X ex W a fa) (hb : PEx X ex W b fb) (hc : PEx X ex W c fc) (hm : lastMarks [copE o, copE o'] [b, c] = false) :
    PTx X ex W (.Compare a [copE o, copE o'] [b, c] pos) fun ρ M => (semCmp2 o o' fa fb fc ρ M).bind fun x M => valO M (truD M x) := (pt_chain ho ho' ha hb hc hm).imp fun _ _ _ p => rd_cmp2 (tt_of bool_cmp2 p)
/-- a test by truth -/
def semTru (f : Rho → Mem → R D) : Rho → Mem → R Bool := fun ρ M => (f ρ M).bind fun x M => valO M (truD M x)
theorem tru_post {K : PySem.W.Frag} {W : Value → Option Addr → Hp → Prop} {ι : List Addr} {H : Hp} {M : Mem} {d : D} {x : V} {γ β : Type} {rel : List Addr → Hp → γ → β → Prop} {f : Bool → Mem → R γ} {Q : β → Hp → Prop} (m : RepM K ι H M) (rx : Rep K ι H d x) (p : Post K ex rel W ι H ((valO M (truD M d)).bind f) Q) : ∃ k, TruV K x H k ∧ Post K ex rel W ι H (f k M) Q := by
  cases h : truD M d with
  | none => rw [h] at p; exact p.elim
  | some k => rw [h] at p; exact ⟨k, tru_of m rx h, p⟩
theorem val_bind {α β : Type} {o : Option α} {M : Mem} : (valO M o) = (valO M o).bind fun (k : α) M => R.ok k M := by cases o <;> rfl
theorem t_tru (ha : PEx X ex W a fa) (he : ∀ whole, isTrue a X.env whole = (do let v ← whole; standAt a.pos; holding [v] (truthy v))) : PTx X ex W a (semTru fa) := by
  refine (pt_truth ha he).imp ?_
  rintro σ H Q ⟨ι, ρ, M, m, r, p⟩
  refine ⟨ι, ρ, M, m, r, p.seq.imp ?_⟩
  rintro x H1 ⟨d, ι1, M1, st, m1, rx, e, p1⟩
  rw [val_bind (β := Bool)] at p1
  obtain ⟨k, h1, p2⟩ := tru_post m1 rx p1
  exact ⟨k, h1, p2.now m1 rfl⟩
theorem e_not (ha : PEx X ex W a fa) : PEx X ex W (.UnaryOp .Not a pos) fun ρ M => (fa ρ M).bind fun x M => valO M ((truD M x).map fun k => .bl (!k)) := by
  refine (pe_notT ha).imp ?_
  rintro σ H Q ⟨ι, ρ, M, m, r, p⟩
  refine ⟨ι, ρ, M, m, r, p.seq.imp ?_⟩
  rintro x H1 ⟨d, ι1, M1, st, m1, rx, e, p1⟩
  cases h : truD M1 d with
  | none => rw [h] at p1; exact p1.elim
  | some k => rw [h] at p1; exact ⟨k, tru_of m1 rx h, p1.now m1 .bl⟩
theorem t_not (ha : PTx X ex W a ta) : PTx X ex W (.UnaryOp .Not a pos) fun ρ M => (ta ρ M).bind fun k M => .ok (!k) M := by
  refine (pt_not ha).imp ?_
  rintro σ H Q ⟨ι, ρ, M, m, r, p⟩
  refine ⟨ι, ρ, M, m, r, p.seq.imp ?_⟩
  rintro x H1 ⟨d, ι1, M1, st, m1, rx, e, p1⟩
  have rx : d = x := rx
  subst rx
  exact p1.now m1 rfl
theorem e_neg (ha : PEx X ex W a fa) : PEx X ex W (.UnaryOp .USub a pos) fun ρ M => (fa ρ M).bind fun x M => valO M (negD x) := by
  refine (pe_un un_neg ha).imp ?_
  rintro σ H Q ⟨ι, ρ, M, m, r, p⟩
  refine ⟨ι, ρ, M, m, r, p.seq.imp ?_⟩
  rintro x H1 ⟨d, ι1, M1, st, m1, rx, e, p1⟩
  cases d <;> first | (exact p1.elim) | skip
  rw [rep_int rx]
  exact ⟨_, rfl, p1.now m1 .int⟩
theorem e_and {rest : List Expr} (ha : PEx X ex W a fa) (hb : PEx X ex W (.BoolOp .And (b :: rest) pos) fb) : PEx X ex W (.BoolOp .And (a :: b :: rest) pos) fun ρ M => (fa ρ M).bind fun x M => (valO M (truD M x)).bind fun k M => if k then fb ρ M else .ok x M := by
  refine (pe_andT ha hb).imp ?_
  rintro σ H Q ⟨ι, ρ, M, m, r, p⟩
  refine ⟨ι, ρ, M, m, r, p.seq.imp ?_⟩
  rintro x H1 ⟨d, ι1, M1, st, m1, rx, e, p1⟩
  obtain ⟨k, h1, p2⟩ := tru_post m1 rx p1
  refine ⟨k, h1, ?_⟩
  cases k with
  | true => simp only [if_true] at p2 ⊢; exact ⟨ι1, ρ, M1, m1, r.mono st, p2⟩
  | false => simp only [Bool.false_eq_true, if_false] at p2 ⊢; exact p2.now m1 rx
theorem e_or {rest : List Expr} (ha : PEx X ex W a fa) (hb : PEx X ex W (.BoolOp .Or (b :: rest) pos) fb) : PEx X ex W (.BoolOp .Or (a :: b :: rest) pos) fun ρ M => (fa ρ M).bind fun x M => (valO M (truD M x)).bind fun k M => if k then .ok x M else fb ρ M := by
  refine (pe_orT ha hb).imp ?_
  rintro σ H Q ⟨ι, ρ, M, m, r, p⟩
  refine ⟨ι, ρ, M, m, r, p.seq.imp ?_⟩
  rintro x H1 ⟨d, ι1, M1, st, m1, rx, e, p1⟩
  obtain ⟨k, h1, p2⟩ := tru_post m1 rx p1
  refine ⟨k, h1, ?_⟩
  cases k with
  | false => simp only [Bool.false_eq_true, if_false] at p2 ⊢; exact ⟨ι1, ρ, M1, m1, r.mono st, p2⟩
  | true => simp only [if_true] at p2 ⊢; exact p2.now m1 rx
theorem pw_of {op : BoolOp} {vs : List Expr} {t : TT} (h : PT X (.BoolOp op vs pos) t) : PW X (.BoolOp op vs pos) t := ⟨fun whole pins s σ H Q I q => by
  have z := h.run pins s σ H Q I q
  rw [PySem.arm_isTrue_BoolOp] at z ⊢
  exact z⟩
theorem t_and1 {op : BoolOp} (hb : PTx X ex W a ta) : PTx X ex W (.BoolOp op [a] pos) ta := by
  cases op with
  | And => exact (pw_and1 hb).pt
  | Or => exact (pw_or1 hb).pt
theorem t_and {rest : List Expr} (ha : PTx X ex W a ta) (hb : PTx X ex W (.BoolOp .And (b :: rest) pos) tb) : PTx X ex W (.BoolOp .And (a :: b :: rest) pos) fun ρ M => (ta ρ M).bind fun k M => if k then tb ρ M else .ok false M := by
  refine ((pw_and ha (pw_of hb)).pt).imp ?_
  rintro σ H Q ⟨ι, ρ, M, m, r, p⟩
  refine ⟨ι, ρ, M, m, r, p.seq.imp ?_⟩
  rintro x H1 ⟨d, ι1, M1, st, m1, rx, e, p1⟩
  have rx : d = x := rx
  subst rx
  cases d with
  | true => simp only [if_true] at p1 ⊢; exact ⟨ι1, ρ, M1, m1, r.mono st, p1⟩
  | false => simp only [Bool.false_eq_true, if_false] at p1 ⊢; exact p1.now m1 rfl
theorem t_or {rest : List Expr} (ha : PTx X ex W a ta) (hb : PTx X ex W (.BoolOp .Or (b :: rest) pos) tb) : PTx X ex W (.BoolOp .Or (a :: b :: rest) pos) fun ρ M => (ta ρ M).bind fun k M => if k then .ok true M else tb ρ M := by
  refine ((pw_or ha (pw_of hb)).pt).imp ?_
  rintro σ H Q ⟨ι, ρ, M, m, r, p⟩
  refine ⟨ι, ρ, M, m, r, p.seq.imp ?_⟩
  rintro x H1 ⟨d, ι1, M1, st, m1, rx, e, p1⟩
  have rx : d = x := rx
  subst rx
  cases d with
  | false => simp only [Bool.false_eq_true, if_false] at p1 ⊢; exact ⟨ι1, ρ, M1, m1, r.mono st, p1⟩
  | true => simp only [if_true] at p1 ⊢; exact p1.now m1 rfl
theorem e_ite (hc : PTx X ex W c tc) (ha : PEx X ex W a fa) (hb : PEx X ex W b fb) : PEx X ex W (.IfExp c a b pos) fun ρ M => (tc ρ M).bind fun k M => if k then fa ρ M else fb ρ M := by
  refine (pe_ifExp hc ha hb).imp ?_
  rintro σ H Q ⟨ι, ρ, M, m, r, p⟩
  refine ⟨ι, ρ, M, m, r, p.seq.imp ?_⟩
  rintro x H1 ⟨d, ι1, M1, st, m1, rx, e, p1⟩
  have rx : d = x := rx
  subst rx
  cases d with
  | false => simp only [Bool.false_eq_true, if_false] at p1 ⊢; exact ⟨ι1, ρ, M1, m1, r.mono st, p1⟩
  | true => simp only [if_true] at p1 ⊢; exact ⟨ι1, ρ, M1, m1, r.mono st, p1⟩
theorem t_ite (hc : PTx X ex W c tc) (ha : PTx X ex W a ta) (hb : PTx X ex W b tb) : PTx X ex W (.IfExp c a b pos) fun ρ M => (tc ρ M).bind fun k M => if k then ta ρ M else tb ρ M := by
  refine ⟨fun pins s σ H Q I h => ?_⟩
  obtain ⟨ι, ρ, M, m, r, p⟩ := h
  refine isTrue_IfExp (thn (hc.run pins s σ H _ I ⟨ι, ρ, M, m, r, p.seq⟩) fun k s1 ⟨H1, I1, d, ι1, M1, st, m1, rx, e, p1⟩ => ?_)
  have rx : d = k := rx
  subst rx
  cases d with
  | false => simp only [Bool.false_eq_true, if_false] at p1 ⊢; exact hb.run pins s1 σ H1 Q I1 ⟨ι1, ρ, M1, m1, r.mono st, p1⟩
  | true => simp only [if_true] at p1 ⊢; exact ha.run pins s1 σ H1 Q I1 ⟨ι1, ρ, M1, m1, r.mono st, p1⟩
end
end J

namespace J
open PySem PySem.Spec
open PyProof.Rows L2
section
variable {X : Cx} {ex : Exs} {W : WX} {a b c e o : Expr} {es : List Expr} {fa fb fc : Rho → Mem → R D} {ta tb tc : Rho → Mem → R Bool} {fs : Rho → Mem → R (List D)} {pos p apos : Pos} {x name : Str}
/-! ## arguments, displays -/
theorem a_nil : PAx X ex W [] fun _ M => .ok [] M := by
  refine pa_nil.imp ?_
  rintro σ H Q ⟨ι, ρ, M, m, r, p⟩
  exact p.now m .nil
theorem a_cons (ha : PEx X ex W e fa) (hs : PAx X ex W es fs) (h : starEach (e :: es) X.env = (false, eval e X.env) :: starEach es X.env) : PAx X ex W (e :: es) fun ρ M => (fa ρ M).bind fun x M => (fs ρ M).bind fun xs M => .ok (x :: xs) M := by
  refine (pa_cons ha hs h).imp ?_
  rintro σ H Q ⟨ι, ρ, M, m, r, p⟩
  refine ⟨ι, ρ, M, m, r, p.seq.imp ?_⟩
  rintro x H1 ⟨d, ι1, M1, st, m1, rx, e, p1⟩
  refine ⟨ι1, ρ, M1, m1, r.mono st, p1.seq.imp ?_⟩
  rintro xs H2 ⟨ds, ι2, M2, st2, m2, rs, e2, p2⟩
  exact p2.now m2 (.cons (rx.mono st2) rs)
theorem a_star (ha : PEx X ex W e fa) (hs : PAx X ex W es fs) : PAx X ex W (.Starred e p :: es) fun ρ M => (fa ρ M).bind fun x M => (valO M (starD M x)).bind fun ds M => (fs ρ M).bind fun xs M => .ok (ds ++ xs) M := by
  refine (StX.pa_star ha hs).imp ?_
  rintro σ H Q ⟨ι, ρ, M, m, r, p⟩
  refine ⟨ι, ρ, M, m, r, p.seq.imp ?_⟩
  rintro x H1 ⟨d, ι1, M1, st, m1, rx, e, p1⟩
  have go : ∀ {es : List D} {b : Addr} {vs : List V}, x = .ref b → (SqT X.K H1 b vs ∨ SqL X.K H1 b vs) → Reps X.K ι1 H1 es vs →
      Post X.K ex (Reps X.K) (fun c d H => W c d σ H) ι1 H1 ((fs ρ M1).bind fun xs M => .ok (es ++ xs) M) Q → ∃ a xs, x = .ref a ∧ (SqT X.K H1 a xs ∨ SqL X.K H1 a xs) ∧ tA X.K ex W fs σ H1 fun ys H2 => Q (xs ++ ys) H2 := by
    intro es b vs ex hb rv p2
    refine ⟨b, vs, ex, hb, ι1, ρ, M1, m1, r.mono st, p2.seq.imp ?_⟩
    rintro ys H2 ⟨ds, ι2, M2, st2, m2, rs, e2, p3⟩
    exact p3.now m2 ((rv.mono st2).append rs)
  cases d with
  | tup ds => obtain ⟨b, vs, rfl, hb, rv⟩ := rep_tup rx; exact go rfl (.inl hb) rv p1
  | rol ds => obtain ⟨b, vs, rfl, hb, rv⟩ := rep_rol rx; exact go rfl (.inr hb.l) rv p1
  | cell n =>
    obtain ⟨b, rfl, hb⟩ := rep_cell rx
    simp only [starD] at p1
    cases h : lstAt M1 n with
    | none => rw [h] at p1; exact p1.elim
    | some ds =>
      rw [h] at p1
      obtain ⟨vs, h1, rv⟩ := lst_at m1 hb h
      exact go rfl (.inr (.of h1)) rv p1
  | _ => exact p1.elim
theorem e_tup {k : Nat} (h : PAx X ex W es fs) : PEx X ex W (.Tuple es k pos) fun ρ M => (fs ρ M).bind fun ds M => if ds.length ≤ big then .ok (.tup ds) M else .bad := by
  refine (pe_tup h).imp ?_
  rintro σ H Q ⟨ι, ρ, M, m, r, p⟩
  refine ⟨ι, ρ, M, m, r, p.seq.imp ?_⟩
  rintro vs H1 ⟨ds, ι1, M1, st, m1, rs, e, p1⟩
  by_cases hz : ds.length ≤ big
  · rw [if_pos hz] at p1
    exact ⟨by rw [← rs.length]; exact sz hz, fun q hq => PostV.newT (r := rs) (M := M1) (ι := ι1) (K := X.K) p1 m1 hq⟩
  · rw [if_neg hz] at p1; exact p1.elim
theorem e_lst (h : PAx X ex W es fs) : PEx X ex W (.List es pos) fun ρ M => (fs ρ M).bind fun ds M => if ds.length ≤ big then .ok (.cell M.length) (M ++ [.lst ds]) else .bad := by
  refine (pe_lst h).imp ?_
  rintro σ H Q ⟨ι, ρ, M, m, r, p⟩
  refine ⟨ι, ρ, M, m, r, p.seq.imp ?_⟩
  rintro vs H1 ⟨ds, ι1, M1, st, m1, rs, e, p1⟩
  by_cases hz : ds.length ≤ big
  · rw [if_pos hz] at p1
    exact ⟨by rw [← rs.length]; exact sz hz, fun q hq => PostV.newL (r := rs) (M := M1) (ι := ι1) (K := X.K) p1 m1 hq⟩
  · rw [if_neg hz] at p1; exact p1.elim
/-! ## calls -/
/-- what a def promises: what the run of its term tells -/
def spF (K : PySem.W.Frag) (ex : Exs) (call : Nat → List D → Mem → R D) (f : Nat) : Sp := fun vs H Q E => ∃ ι M ds, RepM K ι H M ∧ Reps K ι H ds vs ∧ Post K ex (Rep K) E ι H (call f ds M) Q
theorem e_call {k f : Nat} {fn : Addr} {fd : FuncData} {ps : List Str} {call : Nat → List D → Mem → R D} (F : FnOk X.prog X.w X.K X.mg X.base (L2.CX X.prog X.w) k fn fd ps (spF X.K ex call f)) (hr : Room k X.A) (hg : Gl X x) (hm : X.mg x = some (.ref fn)) (hk : PySem.W.keepIn X.K (.ref fn) = true)
    (hb : Binds X.K fd ps []) (hx : ∀ σ, PassesAt (L2.CX X.prog X.w) X σ (WE W σ)) (ha : PAx X ex W (e :: es) fs) (hdb : (x == ("__debug__" : Str)) = false) (he : starEach (e :: es) X.env = (false, eval e X.env) :: starEach es X.env) (hpl : (backTo pos (starEach es X.env)).any (·.1) = false) :
    PEx X ex W (.Call (.Name x p) (e :: es) [] pos) fun ρ M => (fs ρ M).bind fun ds M => call f ds M := by
  refine (pe_callS F hr hg hm hk hb hx ha hdb he hpl).imp ?_
  rintro σ H Q ⟨ι, ρ, M, m, r, p⟩
  refine ⟨ι, ρ, M, m, r, p.seq.imp ?_⟩
  rintro vs H1 ⟨ds, ι1, M1, st, m1, rs, e, p1⟩
  exact ⟨ι1, M1, ds, m1, rs, p1⟩
theorem e_call0 {k f : Nat} {fn : Addr} {fd : FuncData} {ps : List Str} {call : Nat → List D → Mem → R D} (F : FnOk X.prog X.w X.K X.mg X.base (L2.CX X.prog X.w) k fn fd ps (spF X.K ex call f)) (hr : Room k X.A) (hg : Gl X x) (hm : X.mg x = some (.ref fn)) (hk : PySem.W.keepIn X.K (.ref fn) = true)
    (hb : Binds X.K fd ps []) (hx : ∀ σ, PassesAt (L2.CX X.prog X.w) X σ (WE W σ)) (hdb : (x == ("__debug__" : Str)) = false) :
    PEx X ex W (.Call (.Name x p) [] [] pos) fun ρ M => call f [] M := by
  refine ⟨fun pins s σ H Q I h => ?_⟩
  obtain ⟨ι, ρ, M, m, r, p1⟩ := h
  refine wpAny_Call_Name_kw (ld_glob I hg hm ?_ hdb)
  exact PySem.W.callWith_K0 I.kIn hk (run_fnS (us := []) F hr hb (hx σ) I .nil ⟨ι, M, [], m, .nil, p1⟩)
theorem e_blt {id : String} {g : List D → Mem → Option (D × Mem)} (hc : CallR X (.builtin id) (rDs X.K g)) (hg : Gl X x) (hm : X.mg x = none) (hv : bootBuiltins x = some (.builtin id)) (ha : PAx X ex W (e :: es) fs) (hn : x ≠ "__name__") (hdb : (x == ("__debug__" : Str)) = false)
    (he : starEach (e :: es) X.env = (false, eval e X.env) :: starEach es X.env) (hpl : (backTo pos (starEach es X.env)).any (·.1) = false) : PEx X ex W (.Call (.Name x p) (e :: es) [] pos) fun ρ M => (fs ρ M).bind fun ds M => ofO (g ds M) := by
  refine (pe_callB hc hg hm hv ha hn hdb he hpl).imp ?_
  rintro σ H Q ⟨ι, ρ, M, m, r, p⟩
  refine ⟨ι, ρ, M, m, r, p.seq.imp ?_⟩
  rintro vs H1 ⟨ds, ι1, M1, st, m1, rs, e, p1⟩
  exact ⟨ι1, M1, ds, m1, rs, .of p1⟩
theorem e_ty {id : String} {g : List D → Mem → Option (D × Mem)} (hc : CallR X (.type id) (rDs X.K g)) (hg : Gl X x) (hm : X.mg x = none) (hv : bootBuiltins x = some (.type id)) (ha : PAx X ex W (e :: es) fs) (hn : x ≠ "__name__") (hdb : (x == ("__debug__" : Str)) = false)
    (he : starEach (e :: es) X.env = (false, eval e X.env) :: starEach es X.env) (hpl : (backTo pos (starEach es X.env)).any (·.1) = false) : PEx X ex W (.Call (.Name x p) (e :: es) [] pos) fun ρ M => (fs ρ M).bind fun ds M => ofO (g ds M) := by
  refine (pe_callTy hc hg hm hv ha hn hdb he hpl).imp ?_
  rintro σ H Q ⟨ι, ρ, M, m, r, p⟩
  refine ⟨ι, ρ, M, m, r, p.seq.imp ?_⟩
  rintro vs H1 ⟨ds, ι1, M1, st, m1, rs, e, p1⟩
  exact ⟨ι1, M1, ds, m1, rs, .of p1⟩
/-- isinstance(x, T) -/
theorem e_isi {t : Ty} {T : Str} {p2 : Pos} (hT : bootBuiltins T = some (.type (tyN t))) (hgT : Gl X T) (hmT : X.mg T = none) (hnT : T ≠ "__name__") (hdT : (T == ("__debug__" : Str)) = false) (hg : Gl X "isinstance") (hm : X.mg "isinstance" = none) (ha : PEx X ex W a fa)
    (h : starEach [a, .Name T p2] X.env = (false, eval a X.env) :: starEach [.Name T p2] X.env) :
    PEx X ex W (.Call (.Name "isinstance" p) [a, .Name T p2] [] pos) fun ρ M => ((fa ρ M).bind fun x M => R.ok [x] M).bind fun ds M => ofO (bltD (.isi t) ds M) := by
  refine (pe_callB call_isi hg hm (by decide +kernel) (pa_cons ha (pa_cons (pe_bltn (v := .ty (tyN t)) hgT hmT hT rfl hnT hdT) pa_nil) h) (by decide) (by decide) h rfl).imp ?_
  rintro σ H Q ⟨ι, ρ, M, m, r, p⟩
  have p' : Post X.K ex (Rep X.K) (fun c d H => W c d σ H) ι H ((fa ρ M).bind fun x M => ofO (bltD (.isi t) [x] M)) Q := by
    have e : (((fa ρ M).bind fun x M => R.ok [x] M).bind fun ds M => ofO (bltD (.isi t) ds M)) = ((fa ρ M).bind fun x M => ofO (bltD (.isi t) [x] M)) := by cases fa ρ M <;> rfl
    rw [← e]; exact p
  refine ⟨ι, ρ, M, m, r, p'.seq.imp ?_⟩
  rintro x H1 ⟨d, ι1, M1, st, m1, rx, e, p1⟩
  have p2 := PostV.of p1
  simp only [bltD] at p2
  cases e : isiD M1 t d with
  | none => rw [e] at p2; exact p2.elim
  | some k =>
    rw [e] at p2
    obtain ⟨n, ty, hk⟩ := isi_of m1 rx e
    exact ⟨x, .ty (tyN t), _, _, k, rfl, .ty _, ty, kit_ty hk, p2.now m1 .bl⟩
/-! ## methods -/
theorem mth_plain (mt : Mth) : PlainAttrs (mthT mt) := by
  cases mt with
  | join => exact PySem.F.plainAttrs_str
  | get => exact PySem.F.plainAttrs_dict
  | append => exact PySem.F.plainAttrs_list
  | extend => exact PySem.F.plainAttrs_list
  | pop => exact PySem.F.plainAttrs_list
  | index => exact PySem.F.plainAttrs_list
def mthN : Mth → Str
  | .append => "append" | .extend => "extend" | .pop => "pop" | .index => "index" | .join => "join" | .get => "get"
def mthI : Mth → String
  | .append => "list.append" | .extend => "list.extend" | .pop => "list.pop" | .index => "list.index" | .join => "str.join" | .get => "dict.get"
theorem mth_slot (mt : Mth) : Slot (mthT mt) (mthN mt) (mthI mt) := by
  cases mt with
  | join => exact PySem.F.slot_str_join
  | get => exact PySem.F.slot_dict_get
  | append => exact PySem.F.slot_list_append
  | extend => exact PySem.F.slot_list_extend
  | pop => exact PySem.F.slot_list_pop
  | index => exact PySem.F.slot_list_index
theorem mth_type (mt : Mth) : typeOf (.builtin (mthI mt)) = pure (.type "method_descriptor") := by
  cases mt with
  | join => exact PySem.F.type_str_join
  | get => exact PySem.F.type_dict_get
  | append => exact PySem.F.type_list_append
  | extend => exact PySem.F.type_list_extend
  | pop => exact PySem.F.type_list_pop
  | index => exact PySem.F.type_list_index
theorem mth_r (hu : X.A.units + 1 < cLine) (mt : Mth) : MtR X (mthI mt) (rDm X.K (mthD mt)) := by
  cases mt with
  | join => exact mtr_join
  | get => exact mtr_get hu
  | append => exact mtr_append
  | extend => exact mtr_extend
  | pop => exact mtr_pop
  | index => exact mtr_index
theorem e_mth {mt : Mth} (hm : MtR X (mthI mt) (rDm X.K (mthD mt))) (ho : PEx X ex W o fa) (ha : PAx X ex W (e :: es) fs) (hbase : attributeBase o (mthN mt) X.env (eval o X.env) = eval o X.env)
    (hfew : ((backTo pos (starEach (e :: es) X.env)).all (fun x => !x.1) && (backToKw pos (keywordEach [] X.env)).all (fun x => x.1.isSome) && decide ((e :: es).length + ([] : List Keyword).length + (if ([] : List Keyword).isEmpty then 0 else 1) < 30)) = true)
    (hline : (apos.endLine == pos.line) = true) (hs : starEach (e :: es) X.env = (false, eval e X.env) :: starEach es X.env) (hplain : (backTo pos (starEach es X.env)).any (·.1) = false) :
    PEx X ex W (.Call (.Attribute o (mthN mt) apos) (e :: es) [] pos) fun ρ M => (fa ρ M).bind fun x M => if mthOk M mt x then (fs ρ M).bind fun ds M => ofO (mthD mt x ds M) else .bad := by
  refine (pe_bm (mth_plain mt) (mth_slot mt) (mth_type mt) hm ho ha hbase hfew hline hs hplain).imp ?_
  rintro σ H Q ⟨ι, ρ, M, m, r, p⟩
  refine ⟨ι, ρ, M, m, r, p.seq.imp ?_⟩
  rintro x H1 ⟨d, ι1, M1, st, m1, rx, e, p1⟩
  by_cases h : mthOk M1 mt d = true
  · rw [if_pos h] at p1
    refine ⟨mthOk_ty m1 rx h, ι1, ρ, M1, m1, r.mono st, p1.seq.imp ?_⟩
    rintro vs H2 ⟨ds, ι2, M2, st2, m2, rs, e2, p2⟩
    exact ⟨ι2, M2, d, ds, m2, rx.mono st2, rs, .of p2⟩
  · rw [if_neg h] at p1; exact p1.elim
theorem e_mth0 {mt : Mth} (hm : MtR X (mthI mt) (rDm X.K (mthD mt))) (ho : PEx X ex W o fa) (hbase : attributeBase o (mthN mt) X.env (eval o X.env) = eval o X.env) (hline : (apos.endLine == pos.line) = true) :
    PEx X ex W (.Call (.Attribute o (mthN mt) apos) [] [] pos) fun ρ M => (fa ρ M).bind fun x M => if mthOk M mt x then (R.ok [] M).bind fun ds M => ofO (mthD mt x ds M) else .bad := by
  refine (pe_bm0 (mth_plain mt) (mth_slot mt) (mth_type mt) hm ho hbase hline).imp ?_
  rintro σ H Q ⟨ι, ρ, M, m, r, p⟩
  refine ⟨ι, ρ, M, m, r, p.seq.imp ?_⟩
  rintro x H1 ⟨d, ι1, M1, st, m1, rx, e, p1⟩
  by_cases h : mthOk M1 mt d = true
  · rw [if_pos h] at p1
    exact ⟨mthOk_ty m1 rx h, ι1, M1, d, [], m1, rx, .nil, .of p1⟩
  · rw [if_neg h] at p1; exact p1.elim
/-! ## subscripts -/
theorem e_ix (hu : X.A.units + 1 < cLine) (ha : PEx X ex W a fa) (hb : PEx X ex W b fb) (hs : PlainIx b) : PEx X ex W (.Subscript a b pos) fun ρ M => (fa ρ M).bind fun x M => (fb ρ M).bind fun y M => valO M (ixD M x y) := by
  refine (pe_ix (ixr hu) ha hb hs).imp ?_
  rintro σ H Q ⟨ι, ρ, M, m, r, p⟩
  obtain ⟨ι0, ρ0, M0, m0, r0, p0⟩ := two_of m r p
  refine ⟨ι0, ρ0, M0, m0, r0, p0.imp ?_⟩
  rintro x H1 ⟨ι1, ρ1, M1, m1, r1, p1⟩
  refine ⟨ι1, ρ1, M1, m1, r1, p1.imp ?_⟩
  rintro y H2 ⟨ι2, M2, dx, dy, m2, _, rx, ry, p2⟩
  exact ⟨ι2, M2, dx, dy, m2, rx, ry, .val p2⟩
theorem o_none : PO X none (tO X.K ex W fun _ M => .ok none M) := by
  refine po_none.imp ?_
  rintro σ H Q ⟨ι, ρ, M, m, r, p⟩
  exact p.now m rfl
theorem o_some (ha : PEx X ex W a fa) : PO X (some a) (tO X.K ex W fun ρ M => (fa ρ M).bind fun x M => valO M (partD x)) := by
  refine (po_some ha).imp ?_
  rintro σ H Q ⟨ι, ρ, M, m, r, p⟩
  refine ⟨ι, ρ, M, m, r, p.seq.imp ?_⟩
  rintro x H1 ⟨d, ι1, M1, st, m1, rx, e, p1⟩
  cases d <;> first | (exact p1.elim) | skip
  rw [rep_int rx]
  exact ⟨_, rfl, p1.now m1 rfl⟩
theorem e_sl {lo hi : Option Expr} {p2 : Pos} {fl fh : Rho → Mem → R (Option Int)} (ha : PEx X ex W a fa) (hl : PO X lo (tO X.K ex W fl)) (hh : PO X hi (tO X.K ex W fh)) :
    PEx X ex W (.Subscript a (.Slice lo hi none p2) pos) fun ρ M => (fa ρ M).bind fun x M => (fl ρ M).bind fun l M => (fh ρ M).bind fun h M => ofO (slD M l h x) := by
  refine (pe_slice slr ha hl hh).imp ?_
  rintro σ H Q ⟨ι, ρ, M, m, r, p⟩
  refine ⟨ι, ρ, M, m, r, p.seq.imp ?_⟩
  rintro x H1 ⟨d, ι1, M1, st, m1, rx, e, p1⟩
  refine ⟨ι1, ρ, M1, m1, r.mono st, p1.seq.imp ?_⟩
  rintro l H2 ⟨l', ι2, M2, st2, m2, rl, e2, p2⟩
  have rl : l' = l := rl
  subst rl
  refine ⟨ι2, ρ, M2, m2, (r.mono st).mono st2, p2.seq.imp ?_⟩
  rintro h H3 ⟨h', ι3, M3, st3, m3, rh, e3, p3⟩
  have rh : h' = h := rh
  subst rh
  exact ⟨ι3, M3, d, m3, (rx.mono st2).mono st3, .of p3⟩
end
end J

namespace J
open PySem PySem.Spec
open PyProof.Rows L2
/-! ## targets -/
mutual
def slotsT : Tg → List Nat
  | .nm i => [i]
  | .tp ts => slotsTs ts
def slotsTs : List Tg → List Nat
  | [] => []
  | t :: ts => slotsT t ++ slotsTs ts
end
def SameOff (l : List Nat) (σ σ' : L2.St) : Prop := σ'.length = σ.length ∧ ∀ i : Nat, i ∉ l → σ'[i]? = σ[i]?
theorem SameOff.trans {l l' : List Nat} {σ σ' σ'' : L2.St} (a : SameOff l σ σ') (b : SameOff l' σ' σ'') : SameOff (l ++ l') σ σ'' :=
  ⟨b.1.trans a.1, fun i h => (b.2 i fun z => h (List.mem_append_right _ z)).trans (a.2 i fun z => h (List.mem_append_left _ z))⟩
def gT (K : PySem.W.Frag) (t : Tg) : TG := fun v σ H Q => ∃ ι d ρ ρ', Rep K ι H d v ∧ RepRho K ι H ρ σ ∧ asgT t d ρ = some ρ' ∧ ∀ σ', RepRho K ι H ρ' σ' → SameOff (slotsT t) σ σ' → Q σ' H
def gTs (K : PySem.W.Frag) (ts : List Tg) : TGs := fun vs σ H Q => ∃ ι ds ρ ρ', Reps K ι H ds vs ∧ RepRho K ι H ρ σ ∧ asgTs ts ds ρ = some ρ' ∧ ∀ σ', RepRho K ι H ρ' σ' → SameOff (slotsTs ts) σ σ' → Q σ' H
section
variable {K : PySem.W.Frag} {ι : List Addr} {H : Hp} {ρ : Rho} {σ : L2.St}
theorem RepRho.set {i : Nat} {d : D} {v : V} (r : RepRho K ι H ρ σ) (h : Rep K ι H d v) : RepRho K ι H (ρ.set i (some d)) (σ.set i (some v)) := by
  refine ⟨by simp [r.len], fun j e he => ?_⟩
  by_cases hj : j = i
  · subst hj
    have hl : j < ρ.length := by
      have := (List.getElem?_eq_some_iff.mp he).1
      simpa using this
    rw [List.getElem?_set_self hl] at he
    cases he
    exact ⟨v, List.getElem?_set_self (by rw [← r.len]; exact hl), h⟩
  · rw [List.getElem?_set_ne (fun z => hj z.symm)] at he
    obtain ⟨w, h1, h2⟩ := r.at_ j e he
    exact ⟨w, by rw [List.getElem?_set_ne (fun z => hj z.symm)]; exact h1, h2⟩
theorem RepRho.wipe (r : RepRho K ι H ρ σ) : ∀ vs : List Nat, RepRho K ι H (wipeR ρ vs) (L2.wipe σ vs)
  | [] => r
  | v :: vs => by
    have ih := RepRho.wipe r vs
    unfold wipeR L2.wipe
    refine ⟨by simp [ih.len], fun j e he => ?_⟩
    by_cases hj : j = v
    · subst hj
      have hl : j < (wipeR ρ vs).length := by
        have := (List.getElem?_eq_some_iff.mp he).1
        simpa using this
      rw [List.getElem?_set_self hl] at he
      cases he
    · rw [List.getElem?_set_ne (fun z => hj z.symm)] at he
      obtain ⟨w, h1, h2⟩ := ih.at_ j e he
      exact ⟨w, by rw [List.getElem?_set_ne (fun z => hj z.symm)]; exact h1, h2⟩
theorem wipe_get {σ : L2.St} {i : Nat} : ∀ {vs : List Nat}, (L2.wipe σ vs)[i]? = if i ∈ vs ∧ i < σ.length then some none else σ[i]?
  | [] => by simp [L2.wipe]
  | v :: vs => by
    unfold L2.wipe
    by_cases hv : i = v
    · subst hv
      by_cases hl : i < σ.length
      · rw [List.getElem?_set_self (by rw [wipe_length]; exact hl), if_pos ⟨by simp, hl⟩]
      · rw [List.getElem?_eq_none (by simp only [List.length_set, wipe_length]; omega), if_neg (fun z => hl z.2), List.getElem?_eq_none (by omega)]
    · rw [List.getElem?_set_ne (fun z => hv z.symm), wipe_get]
      simp [hv]
theorem wipe_same {σ σ' : L2.St} {l vs : List Nat} (h : SameOff l (L2.wipe σ vs) σ') (hs : ∀ i ∈ l, i ∈ vs) : L2.wipe σ' vs = L2.wipe σ vs := by
  refine List.ext_getElem? fun i => ?_
  have hl : σ'.length = σ.length := by rw [h.1, wipe_length]
  rw [wipe_get, wipe_get, hl]
  by_cases hi : i ∈ vs
  · by_cases hlt : i < σ.length
    · rw [if_pos ⟨hi, hlt⟩, if_pos ⟨hi, hlt⟩]
    · rw [if_neg (fun z => hlt z.2), if_neg (fun z => hlt z.2), List.getElem?_eq_none (by omega), List.getElem?_eq_none (by omega)]
  · rw [if_neg (fun z => hi z.1), if_neg (fun z => hi z.1), h.2 i (fun z => hi (hs i z)), wipe_get, if_neg (fun z => hi z.1)]
end
section
variable {X : Cx} {pos : Pos}
theorem g_name {i : Nat} {x : Str} (hN : X.N.Nodup) (hi : X.N[i]? = some x) (hx : Loc X.env.scope x) (hf : X.fn x = true ∨ X.env.scope.names.lookup x = some .local) : PG X (.Name x pos) (gT X.K (.nm i)) := by
  refine ⟨fun pins s σ H v u Q I r h => (pg_name hN hi hx hf).run pins s σ H v u Q I r ?_⟩
  obtain ⟨ι, d, ρ, ρ', rd, rr, e, q⟩ := h
  simp only [asgT] at e
  cases e
  exact q _ (rr.set rd) ⟨by simp, fun j hj => by rw [List.getElem?_set_ne]; intro z; exact hj (by simp [slotsT, z])⟩
theorem g_nil : PGs X [] (gTs X.K []) := by
  refine ⟨fun pins s σ H vs us Q I r h => pgs_nil.run pins s σ H vs us Q I r ?_⟩
  obtain ⟨ι, ds, ρ, ρ', rd, rr, e, q⟩ := h
  cases ds with
  | nil =>
    simp only [asgTs] at e
    cases e
    exact ⟨rd.inv_nil, q σ rr ⟨rfl, fun _ _ => rfl⟩⟩
  | cons _ _ => simp only [asgTs] at e; cases e
theorem g_cons {e : Expr} {es : List Expr} {t : Tg} {ts : List Tg} (h1 : PG X e (gT X.K t)) (h2 : PGs X es (gTs X.K ts)) (hs : (assignEach (e :: es) X.env).map (·.2) = assign e X.env :: (assignEach es X.env).map (·.2)) : PGs X (e :: es) (gTs X.K (t :: ts)) := by
  refine ⟨fun pins s σ H vs us Q I r h => (pgs_cons h1 h2 hs).run pins s σ H vs us Q I r ?_⟩
  obtain ⟨ι, ds, ρ, ρ', rd, rr, e, q⟩ := h
  cases ds with
  | nil => simp only [asgTs] at e; cases e
  | cons d ds =>
    obtain ⟨v, t', rfl, q1, q2⟩ := rd.inv_cons
    simp only [asgTs] at e
    cases e1 : asgT t d ρ with
    | none => rw [e1] at e; cases e
    | some ρ1 =>
      rw [e1, Option.bind_some] at e
      refine ⟨v, t', rfl, ι, d, ρ, ρ1, q1, rr, e1, fun σ1 rr1 so1 => ⟨ι, ds, ρ1, ρ', q2, rr1, e, fun σ2 rr2 so2 => q σ2 rr2 ?_⟩⟩
      exact so1.trans so2
theorem g_tup {es : List Expr} {k : Nat} {ts : List Tg} (hc : X.calm = true) (h : PGs X es (gTs X.K ts)) (hl : es.length = ts.length) (hn : (assignEach es X.env).length = es.length) (hst : (assignEach es X.env).findIdx? (·.1) = none) : PG X (.Tuple es k pos) (gT X.K (.tp ts)) := by
  refine ⟨fun pins s σ H v u Q I r hw => (pg_tup hc h hn hst).run pins s σ H v u Q I r ?_⟩
  obtain ⟨ι, d, ρ, ρ', rd, rr, e, q⟩ := hw
  cases d <;> first | (simp only [asgT] at e; cases e; done) | skip
  rename_i ds
  simp only [asgT] at e
  obtain ⟨a, vs, rfl, hs, rv⟩ := rep_tup rd
  refine ⟨a, vs, rfl, hs, ?_, ι, ds, ρ, ρ', rv, rr, e, q⟩
  have len : ∀ (ts : List Tg) (ds : List D) (ρ ρ' : Rho), asgTs ts ds ρ = some ρ' → ds.length = ts.length := by
    intro ts
    induction ts with
    | nil => intro ds ρ ρ' e; cases ds <;> simp [asgTs] at e ⊢
    | cons t ts ih =>
      intro ds ρ ρ' e
      cases ds with
      | nil => simp [asgTs] at e
      | cons d ds =>
        simp only [asgTs] at e
        cases e1 : asgT t d ρ with
        | none => rw [e1] at e; cases e
        | some ρ1 => rw [e1, Option.bind_some] at e; simp [ih ds ρ1 ρ' e]
  rw [← rv.length, len ts ds ρ ρ' e, hl]
end
/-! ## what is walked -/
def WalkD (K : PySem.W.Frag) (ι0 : List Addr) (H0 : Hp) (J : It) (its : Its) : Prop := ∃ (n : Nat) (G : Hp → Prop) (Y : Nat → Hp → V → Hp → Prop), Walk J n G Y ∧ n = its.2.length ∧
  (∀ ι H M, Step K ι0 H0 ι H → RepM K ι H M → chk M its.1 = true → G H) ∧
  (∀ i ι H x H' M d, Step K ι0 H0 ι H → RepM K ι H M → chk M its.1 = true → Y i H x H' → its.2[i]? = some d → Step K ι H ι H' ∧ RepM K ι H' M ∧ Rep K ι H' d x)
abbrev relI (K : PySem.W.Frag) : List Addr → Hp → Its → It → Prop := fun ι H its J => WalkD K ι H J its
def tI (K : PySem.W.Frag) (ex : Exs) (W : WX) (f : Rho → Mem → R Its) : TI := fun σ H R => ∃ ι ρ M, RepM K ι H M ∧ RepRho K ι H ρ σ ∧ Post K ex (relI K) (fun c d H => W c d σ H) ι H (f ρ M) R
theorem walk_listA {K : PySem.W.Frag} {a : Addr} {n : Nat} : Walk (Itl K a) n (fun H => ∃ ws, SqL K H a ws ∧ ws.length = n) (fun i H x H' => H' = H ∧ ∀ xs, SqL K H a xs → xs[i]? = some x) :=
  ⟨fun i _ hi ⟨ws, q, hl⟩ => ⟨ws, ws[i]'(by omega), q, by simp [show i < ws.length by omega]⟩, fun _ ⟨ws, q, hl⟩ => ⟨ws, q, by omega⟩, fun _ _ _ _ _ _ y => y⟩
section
variable {K : PySem.W.Frag} {ι : List Addr} {H : Hp} {M : Mem}
theorem walkD_tup {a : Addr} {vs : List V} {ds : List D} (hs : SqT K H a vs) (r : Reps K ι H ds vs) : WalkD K ι H (Itt K a) ([], ds) := by
  refine ⟨_, _, _, walk_tup (xs := vs), r.length.symm, fun ι' H' M' st _ _ => st.tups a vs hs, fun i ι' H' x H'' M' d st m _ y e => ?_⟩
  obtain ⟨rfl, ex⟩ := y
  obtain ⟨w, ew, rw'⟩ := (r.mono st).get e
  rw [ex] at ew; cases ew
  exact ⟨.refl, m, rw'⟩
theorem walkD_rol {a : Addr} {vs : List V} {ds : List D} (hs : SqF K H a vs) (r : Reps K ι H ds vs) : WalkD K ι H (Itl K a) ([], ds) := by
  refine ⟨_, _, _, walk_listA (n := vs.length), r.length.symm, fun ι' H' M' st _ _ => ⟨vs, (st.frzs a vs hs).l, rfl⟩, fun i ι' H' x H'' M' d st m _ y e => ?_⟩
  obtain ⟨rfl, ex⟩ := y
  obtain ⟨w, ew, rw'⟩ := (r.mono st).get e
  rw [ex vs (st.frzs a vs hs).l] at ew; cases ew
  exact ⟨.refl, m, rw'⟩
theorem chk_one {n : Nat} {ds : List D} (h : chk M [(n, .lst ds)] = true) : lstAt M n = some ds := by
  have e : M[n]? = some (.lst ds) := by simpa [chk] using h
  unfold lstAt
  rw [e]
theorem chk_app {a b : List (Nat × Cell)} (h : chk M (a ++ b) = true) : chk M a = true ∧ chk M b = true := by
  simpa [chk, List.all_append] using h
theorem walkD_lst {a : Addr} {n : Nat} {ds : List D} (ha : ι[n]? = some a) : WalkD K ι H (Itl K a) ([(n, .lst ds)], ds) := by
  refine ⟨_, _, _, walk_listA (n := ds.length), rfl, fun ι' H' M' st m hc => ?_, fun i ι' H' x H'' M' d st m hc y e => ?_⟩
  · obtain ⟨ws, h1, r1⟩ := lst_at m (st.get ha) (chk_one hc)
    exact ⟨ws, .of h1, r1.length.symm⟩
  · obtain ⟨rfl, ex⟩ := y
    obtain ⟨ws, h1, r1⟩ := lst_at m (st.get ha) (chk_one hc)
    obtain ⟨w, ew, rw'⟩ := r1.get e
    rw [ex ws (.of h1)] at ew; cases ew
    exact ⟨.refl, m, rw'⟩
theorem rng_get {lo : Int} : ∀ {n i : Nat}, i < n → (rngD lo n)[i]? = some (.int (lo + i))
  | 0, i, h => absurd h (Nat.not_lt_zero _)
  | n + 1, 0, h => by simp [rngD]
  | n + 1, i + 1, h => by
    simp only [rngD, List.getElem?_cons_succ]
    rw [rng_get (lo := lo + 1) (by omega)]
    congr 2
    push_cast
    omega
theorem rng_len {lo : Int} : ∀ {n : Nat}, (rngD lo n).length = n
  | 0 => rfl
  | n + 1 => by simp [rngD, rng_len]
theorem walkD_rng {lo : Int} {n : Nat} : WalkD K ι H (Itr lo n) ([], rngD lo n) := by
  refine ⟨_, _, _, walk_range, rng_len.symm, fun _ _ _ _ _ _ => trivial, fun i ι' H' x H'' M' d st m _ y e => ?_⟩
  obtain ⟨rfl, rfl⟩ := y
  have hi : i < n := by
    have := (List.getElem?_eq_some_iff.mp e).1
    rwa [rng_len] at this
  have e' : (rngD lo n)[i]? = some d := e
  rw [rng_get hi] at e'
  cases e'
  exact ⟨.refl, m, .int⟩
end
section
variable {X : Cx} {ex : Exs} {W : WX} {tg l : Expr} {fa : Rho → Mem → R D} {fs : Rho → Mem → R (List D)} {es : List Expr} {p pos : Pos}
abbrev PIx (X : Cx) (ex : Exs) (W : WX) (tg it : Expr) (f : Rho → Mem → R Its) : Prop := PI X tg it (tI X.K ex W f)
theorem _root_.L2.PI.imp {X : Cx} {tg e : Expr} {t t' : TI} (h : PI X tg e t) (w : ∀ σ H Q, t' σ H Q → t σ H Q) : PI X tg e t' := ⟨fun pins s σ H Q I q => h.run pins s σ H Q I (w σ H Q q)⟩
theorem i_val (hl : PEx X ex W l fa) : PIx X ex W tg l fun ρ M => (fa ρ M).bind fun x M => valO M (itD M x) := by
  refine ⟨fun pins s σ H R I h => ?_⟩
  obtain ⟨ι, ρ, M, m, r, p⟩ := h
  refine thn (hl.run pins s σ H _ I ⟨ι, ρ, M, m, r, p.seq⟩) fun v s1 ⟨x, H1, I1, r1, d, ι1, M1, st, m1, rx, e, p1⟩ => ?_
  have lst : ∀ {a : Addr} {vs : List V}, v = Value.ref a → SqL X.K H1 a vs → R (Itl X.K a) H1 → wpAny (model X.prog X.w) X.A (pyIter v) (PIE X pins σ tg R) X.xe s1 := by
    intro a vs ev hq q
    subst ev
    obtain ⟨its, rv, p, hz⟩ := I1.list hq
    refine wpAny_pyIter_list p.isList ?_
    refine ⟨s1.heap.objs.size, [s1.heap.objs.size], _, _, H1, rfl, I1.kept (t' := s1.toks) fun b o e => Heap.get?_push_of_some _ e, turn_list a _, ⟨_, Heap.get?_push_size _ rfl, rfl, rfl⟩, fun b hb => ?_, q⟩
    have e : b = s1.heap.objs.size := by simpa using hb
    subst e
    exact I1.fpOk (Nat.le_refl _) (I1.hok.fresh (Nat.le_refl _))
  cases d with
  | tup ds =>
    obtain ⟨a, vs, rfl, hs, rv⟩ := rep_tup rx
    cases (show v = Value.ref a from r1)
    have q : R (Itt X.K a) H1 := p1.now m1 (walkD_tup hs rv)
    obtain ⟨its, rv, p, hz⟩ := I1.tuple hs
    refine wpAny_pyIter_tuple (show s1.heap.IsTuple a its.toArray from p) ?_
    refine ⟨s1.heap.objs.size, [s1.heap.objs.size], _, _, H1, rfl, I1.kept (t' := s1.toks) fun b o e => Heap.get?_push_of_some _ e, turn_tuple a _, ⟨_, Heap.get?_push_size _ rfl, rfl, rfl⟩, fun b hb => ?_, q⟩
    have e : b = s1.heap.objs.size := by simpa using hb
    subst e
    exact I1.fpOk (Nat.le_refl _) (I1.hok.fresh (Nat.le_refl _))
  | rol ds =>
    obtain ⟨a, vs, rfl, hs, rv⟩ := rep_rol rx
    exact lst r1 hs.l (p1.now m1 (walkD_rol hs rv))
  | cell n =>
    obtain ⟨a, rfl, ha⟩ := rep_cell rx
    simp only [itD] at p1
    cases e1 : lstAt M1 n with
    | none => rw [e1] at p1; exact p1.elim
    | some ds =>
      rw [e1] at p1
      obtain ⟨vs, h1, rv⟩ := lst_at m1 ha e1
      exact lst r1 (.of h1) (p1.now m1 (walkD_lst ha))
  | _ => exact p1.elim
theorem in62_of {i : Int} (h : in62 i = true) : -(2 ^ 62) ≤ i ∧ i < 2 ^ 62 := by
  simpa [in62] using h
theorem i_rng1 {a : Expr} (hg : Gl X "range") (hm : X.mg "range" = none) (ha : PAx X ex W [a] fs) (hs : starEach [a] X.env = [(false, eval a X.env)]) (h1 : ∀ ρ M ds M', fs ρ M = .ok ds M' → ds.length = 1) : PIx X ex W tg (.Call (.Name "range" p) [a] [] pos) fun ρ M => (fs ρ M).bind fun ds M => rngI M ds := by
  refine (pi_range1 hg hm ha hs).imp ?_
  rintro σ H Q ⟨ι, ρ, M, m, r, p⟩
  refine ⟨ι, ρ, M, m, r, p.seq.imp ?_⟩
  rintro vs H1 ⟨ds, ι1, M1, st, m1, rs, e, p1⟩
  have hl := h1 _ _ _ _ e
  match ds, hl, rs, p1 with
  | [.int n], _, rs, p1 =>
    obtain ⟨v, rfl, rv⟩ := reps1 rs
    rw [rep_int rv]
    by_cases h : in62 n = true
    · simp only [rngI, if_pos h] at p1
      exact ⟨n, rfl, (in62_of h).1, (in62_of h).2, p1.now m1 walkD_rng⟩
    · simp only [rngI, if_neg h] at p1; exact p1.elim
  | [.non], _, rs, p1 => exact p1.elim
  | [.bl _], _, rs, p1 => exact p1.elim
  | [.str _], _, rs, p1 => exact p1.elim
  | [.tup _], _, rs, p1 => exact p1.elim
  | [.rol _], _, rs, p1 => exact p1.elim
  | [.cell _], _, rs, p1 => exact p1.elim
theorem i_rng2 {a b : Expr} (hg : Gl X "range") (hm : X.mg "range" = none) (ha : PAx X ex W [a, b] fs) (hs : starEach [a, b] X.env = [(false, eval a X.env), (false, eval b X.env)]) (hs2 : starEach [b] X.env = [(false, eval b X.env)]) (h1 : ∀ ρ M ds M', fs ρ M = .ok ds M' → ds.length = 2) :
    PIx X ex W tg (.Call (.Name "range" p) [a, b] [] pos) fun ρ M => (fs ρ M).bind fun ds M => rngI M ds := by
  refine (pi_range2 hg hm ha hs hs2).imp ?_
  rintro σ H Q ⟨ι, ρ, M, m, r, p⟩
  refine ⟨ι, ρ, M, m, r, p.seq.imp ?_⟩
  rintro vs H1 ⟨ds, ι1, M1, st, m1, rs, e, p1⟩
  have hl := h1 _ _ _ _ e
  match ds, hl, rs, p1 with
  | [.int i, .int j], _, rs, p1 =>
    obtain ⟨v, w, rfl, rv, rw'⟩ := reps2 rs
    rw [rep_int rv, rep_int rw']
    by_cases h : (in62 i && in62 j) = true
    · simp only [rngI, if_pos h] at p1
      simp only [Bool.and_eq_true] at h
      exact ⟨i, j, rfl, ⟨(in62_of h.1).1, (in62_of h.1).2, (in62_of h.2).1, (in62_of h.2).2⟩, p1.now m1 walkD_rng⟩
    · simp only [rngI, if_neg h] at p1; exact p1.elim
  | [.int _, .non], _, rs, p1 => exact p1.elim
  | [.int _, .bl _], _, rs, p1 => exact p1.elim
  | [.int _, .str _], _, rs, p1 => exact p1.elim
  | [.int _, .tup _], _, rs, p1 => exact p1.elim
  | [.int _, .rol _], _, rs, p1 => exact p1.elim
  | [.int _, .cell _], _, rs, p1 => exact p1.elim
  | [.non, _], _, rs, p1 => exact p1.elim
  | [.bl _, _], _, rs, p1 => exact p1.elim
  | [.str _, _], _, rs, p1 => exact p1.elim
  | [.tup _, _], _, rs, p1 => exact p1.elim
  | [.rol _, _], _, rs, p1 => exact p1.elim
  | [.cell _, _], _, rs, p1 => exact p1.elim
end
/-! ## comprehensions -/
/-- neither a tuple nor what never changes -/
def Plain (o : HO) : Prop := (∀ xs, HO.tup xs ≠ o) ∧ (∀ b xs, HO.frz b (.tup xs) ≠ o) ∧ ∀ b xs, HO.frz b (.lst xs) ≠ o
theorem plain_lst {vs : List V} : Plain (.lst vs) := ⟨(fun _ z => nomatch z), (fun _ _ z => nomatch z), (fun _ _ z => nomatch z)⟩
theorem plain_frd {b : Obj} {vs : List (Key × V)} : Plain (.frz b (.dK vs)) := ⟨(fun _ z => nomatch z), (fun _ _ z => nomatch z), (fun _ _ z => nomatch z)⟩
theorem plain_dK {vs : List (Key × V)} : Plain (.dK vs) := ⟨(fun _ z => nomatch z), (fun _ _ z => nomatch z), (fun _ _ z => nomatch z)⟩
mutual
theorem Rep.upd {K : PySem.W.Frag} {ι : List Addr} {H : Hp} {a : Addr} {o o0 : HO} (ha : H a = some o0) (ho : Plain o0) : ∀ (d : D) (v : V), Rep K ι H d v → Rep K ι (upd H a o) d v
  | .non, v, h => by simpa [Rep] using h
  | .bl _, v, h => by simpa [Rep] using h
  | .int _, v, h => by simpa [Rep] using h
  | .str _, v, h => by simpa [Rep] using h
  | .tup ds, v, h => by
    simp only [Rep] at h ⊢
    obtain ⟨b, ws, e, q, r⟩ := h
    refine ⟨b, ws, e, ?_, Reps.upd ha ho ds ws r⟩
    rcases q with (q | ⟨u, q⟩) | q
    · exact .inl (.inl (by rw [upd_ne (ne_of q ha (ho.1 _))]; exact q))
    · exact .inl (.inr ⟨u, by rw [upd_ne (ne_of q ha (ho.2.1 _ _))]; exact q⟩)
    · exact .inr q
  | .rol ds, v, h => by
    simp only [Rep] at h ⊢
    obtain ⟨b, ws, e, q, r⟩ := h
    refine ⟨b, ws, e, ?_, Reps.upd ha ho ds ws r⟩
    rcases q with ⟨u, q⟩ | q
    · exact .inl ⟨u, by rw [upd_ne (ne_of q ha (ho.2.2 _ _))]; exact q⟩
    · exact .inr q
  | .cell n, v, h => by simpa [Rep] using h
theorem Reps.upd {K : PySem.W.Frag} {ι : List Addr} {H : Hp} {a : Addr} {o o0 : HO} (ha : H a = some o0) (ho : Plain o0) : ∀ (ds : List D) (ws : List V), Reps K ι H ds ws → Reps K ι (upd H a o) ds ws
  | [], ws, h => by simpa [Reps] using h
  | d :: r, ws, h => by
    simp only [Reps] at h ⊢
    obtain ⟨v, t, e, q, q'⟩ := h
    exact ⟨v, t, e, Rep.upd ha ho d v q, Reps.upd ha ho r t q'⟩
end
theorem RepKs.upd {K : PySem.W.Frag} {ι : List Addr} {H : Hp} {a : Addr} {o o0 : HO} (ha : H a = some o0) (ho : Plain o0) : ∀ (ds : List (Key × D)) (ws : List (Key × V)), RepKs K ι H ds ws → RepKs K ι (L2.upd H a o) ds ws
  | [], ws, h => by simpa [RepKs] using h
  | d :: r, ws, h => by
    simp only [RepKs] at h ⊢
    obtain ⟨v, t, e, q, q'⟩ := h
    exact ⟨v, t, e, Rep.upd ha ho d.2 v q, RepKs.upd ha ho r t q'⟩
theorem RepM.upd {K : PySem.W.Frag} {ι : List Addr} {H : Hp} {M : Mem} {a : Addr} {o o0 : HO} (m : RepM K ι H M) (ha : H a = some o0) (ho : Plain o0) (hn : a ∉ ι) : RepM K ι (L2.upd H a o) M := by
  refine ⟨m.len, m.nd, fun n c h => ?_⟩
  obtain ⟨b, e, r⟩ := m.at_ n c h
  have hb : b ≠ a := fun z => hn (z ▸ List.mem_of_getElem? e)
  refine ⟨b, e, ?_⟩
  cases c with
  | lst ds => obtain ⟨ws, q, rs⟩ := r; exact ⟨ws, by rw [upd_ne hb]; exact q, Reps.upd ha ho ds ws rs⟩
  | dic ds => obtain ⟨ws, q, rs⟩ := r; exact ⟨ws, by rw [upd_ne hb]; exact q, RepKs.upd ha ho ds ws rs⟩
  | frd ds => obtain ⟨o, ws, q, rs⟩ := r; exact ⟨o, ws, by rw [upd_ne hb]; exact q, RepKs.upd ha ho ds ws rs⟩
/-- an object of ours, not of the memory, is written anew -/
theorem Step.updO {K : PySem.W.Frag} {ι ι' : List Addr} {H H' : Hp} {a : Addr} {o o0 : HO} (st : Step K ι H ι' H') (ha : H' a = some o0) (ho : Plain o0) (hn : H a = none) : Step K ι H ι' (L2.upd H' a o) := by
  refine ⟨st.pre, fun x u h hx => by rw [upd_ne (by rintro rfl; rw [hn] at h; cases h)]; exact st.fr x u h hx, fun x h => ?_, fun x ws h => ?_, fun x ws h => ?_, fun x b u h => by rw [upd_ne (by rintro rfl; rw [hn] at h; cases h)]; exact st.lock x b u h⟩
  · by_cases e : x = a
    · subst e; exact hn
    · rw [upd_ne e] at h; exact st.dom x h
  · rcases st.tups x ws h with (q | ⟨u, q⟩) | q
    · exact .inl (.inl (by rw [upd_ne (ne_of q ha (ho.1 _))]; exact q))
    · exact .inl (.inr ⟨u, by rw [upd_ne (ne_of q ha (ho.2.1 _ _))]; exact q⟩)
    · exact .inr q
  · rcases st.frzs x ws h with ⟨u, q⟩ | q
    · exact .inl ⟨u, by rw [upd_ne (ne_of q ha (ho.2.2 _ _))]; exact q⟩
    · exact .inr q
mutual
theorem Rep.ext {K : PySem.W.Frag} {ι t : List Addr} {H : Hp} : ∀ (d : D) (v : V), Rep K ι H d v → Rep K (ι ++ t) H d v
  | .non, v, h => by simpa [Rep] using h
  | .bl _, v, h => by simpa [Rep] using h
  | .int _, v, h => by simpa [Rep] using h
  | .str _, v, h => by simpa [Rep] using h
  | .tup ds, v, h => by
    simp only [Rep] at h ⊢
    obtain ⟨b, ws, e, q, r⟩ := h
    exact ⟨b, ws, e, q, Reps.ext ds ws r⟩
  | .rol ds, v, h => by
    simp only [Rep] at h ⊢
    obtain ⟨b, ws, e, q, r⟩ := h
    exact ⟨b, ws, e, q, Reps.ext ds ws r⟩
  | .cell n, v, h => by
    simp only [Rep] at h ⊢
    obtain ⟨b, e, q⟩ := h
    refine ⟨b, e, ?_⟩
    rw [List.getElem?_append_left (List.getElem?_eq_some_iff.mp q).1]
    exact q
theorem Reps.ext {K : PySem.W.Frag} {ι t : List Addr} {H : Hp} : ∀ (ds : List D) (ws : List V), Reps K ι H ds ws → Reps K (ι ++ t) H ds ws
  | [], ws, h => by simpa [Reps] using h
  | d :: r, ws, h => by
    simp only [Reps] at h ⊢
    obtain ⟨v, t, e, q, q'⟩ := h
    exact ⟨v, t, e, Rep.ext d v q, Reps.ext r t q'⟩
end
theorem RepKs.ext {K : PySem.W.Frag} {ι t : List Addr} {H : Hp} : ∀ (ds : List (Key × D)) (ws : List (Key × V)), RepKs K ι H ds ws → RepKs K (ι ++ t) H ds ws
  | [], ws, h => by simpa [RepKs] using h
  | d :: r, ws, h => by
    simp only [RepKs] at h ⊢
    obtain ⟨v, t, e, q, q'⟩ := h
    exact ⟨v, t, e, Rep.ext d.2 v q, RepKs.ext r t q'⟩
/-- .. comes into the memory -/
theorem RepM.take {K : PySem.W.Frag} {ι : List Addr} {H : Hp} {M : Mem} {a : Addr} {c0 : Cell} (m : RepM K ι H M) (hn : a ∉ ι) (r : CellRep K (ι ++ [a]) H a c0) : RepM K (ι ++ [a]) H (M ++ [c0]) := by
  refine ⟨by simp [m.len], ?_, fun n c' h => ?_⟩
  · rw [List.nodup_append]
    exact ⟨m.nd, by simp, fun x hx y hy => by simp at hy; subst hy; exact fun e => hn (e ▸ hx)⟩
  · by_cases hlt : n < M.length
    · rw [List.getElem?_append_left hlt] at h
      obtain ⟨b, e, q⟩ := m.at_ n c' h
      refine ⟨b, by rw [List.getElem?_append_left (List.getElem?_eq_some_iff.mp e).1]; exact e, ?_⟩
      cases c' with
      | lst es => obtain ⟨ws, q1, q2⟩ := q; exact ⟨ws, q1, Reps.ext _ _ q2⟩
      | dic es => obtain ⟨ws, q1, q2⟩ := q; exact ⟨ws, q1, RepKs.ext _ _ q2⟩
      | frd es => obtain ⟨o, ws, q1, q2⟩ := q; exact ⟨o, ws, q1, RepKs.ext _ _ q2⟩
    · have hn' : n = M.length := by
        have := (List.getElem?_eq_some_iff.mp h).1
        simp at this
        omega
      subst hn'
      rw [List.getElem?_append_right (Nat.le_refl _)] at h
      simp at h
      subst h
      exact ⟨a, by rw [← m.len]; simp, r⟩
theorem noErr_ok {α : Type} {r : R α} {K : PySem.W.Frag} {ex : Exs} {W : Value → Option Addr → Hp → Prop} {ι : List Addr} {H : Hp} {β γ : Type} {rel : List Addr → Hp → γ → β → Prop} {f : α → Mem → R γ} {Q : β → Hp → Prop} (p : Post K ex rel W ι H ((noErr r).bind f) Q) : ∃ a M, r = .ok a M ∧ Post K ex rel W ι H (f a M) Q := by
  cases r with
  | ok a M => exact ⟨a, M, rfl, p⟩
  | err c as M => exact p.elim
  | bad => exact p.elim
def W0 : WX := fun _ _ _ _ => False
section
variable {X : Cx} {ex : Exs} {W : WX}
def semComp (own : List Nat) (t : Tg) (fI : Rho → Mem → R Its) (ft : Rho → Mem → R Bool) (fe : Rho → Mem → R D) : Rho → Mem → R D := fun ρ M => (fI ρ M).bind fun its M => (noErr (compL (fun d => asgT t d (wipeR ρ own)) ft fe its.1 its.2 [] M)).bind fun ds M => .ok (.cell M.length) (M ++ [.lst ds])
theorem rd_comp {K : PySem.W.Frag} {own : List Nat} {t : Tg} {fI : Rho → Mem → R Its} {ft : Rho → Mem → R Bool} {fe : Rho → Mem → R D} (hsub : ∀ i ∈ slotsT t, i ∈ own) {σ : L2.St} {H : Hp} {Q : VK}
    (p : tE K ex W (semComp own t fI ft fe) σ H Q) : tLc (tI K ex W fI) (gT K t) (tT K ex W0 ft) (tE K ex W0 fe) own σ H Q := by
  obtain ⟨ι, ρ, M, m, r, p⟩ := p
  refine ⟨ι, ρ, M, m, r, p.seq.imp ?_⟩
  rintro J H1 ⟨its, ι1, M1, st1, m1, wd, e, p1⟩
  obtain ⟨dsF, MF, eF, p2⟩ := noErr_ok p1
  obtain ⟨n, G, Y, wk, hn, hG, hY⟩ := wd
  have r1 : RepRho K ι1 H1 ρ σ := r.mono st1
  intro Dl hD
  refine lc_it wk (fun i H' => ∃ ι' M' acc vs, Step K ι1 H1 ι' H' ∧ RepM K ι' H' M' ∧ Dl ∉ ι' ∧ H' Dl = some (.lst vs) ∧ Reps K ι' H' acc vs ∧ compL (fun d => asgT t d (wipeR ρ own)) ft fe its.1 (its.2.drop i) acc M' = .ok dsF MF) ?_ ?_ ?_ ?_
  · have hDn : Dl ∉ ι1 := fun z => m1.live z hD
    have st : Step K ι1 H1 ι1 (upd H1 Dl (.lst [])) := by simpa using step_new (K := K) (ι := ι1) (o := .lst []) hD [] (by simp)
    exact ⟨ι1, M1, [], [], st, m1.keep hD, hDn, upd_same, .nil, eF⟩
  · rintro i H' hi ⟨ι', M', acc, vs, st, m', _, _, _, ec⟩
    refine hG ι' H' M' st m' ?_
    cases hd : its.2.drop i with
    | nil =>
      rw [hd] at ec
      simp only [compL] at ec
      split at ec
      · assumption
      · cases ec
    | cons d rest =>
      rw [hd] at ec
      simp only [compL] at ec
      split at ec
      · assumption
      · cases ec
  · rintro i x H' H'' hi ⟨ι', M', acc, vs, st, m', hDn, hDv, ra, ec⟩ hy
    have hlt : i < its.2.length := by omega
    have hd : its.2.drop i = its.2[i] :: its.2.drop (i + 1) := List.drop_eq_getElem_cons hlt
    rw [hd] at ec
    simp only [compL] at ec
    split at ec
    · rename_i hck
      obtain ⟨sy, my, ry⟩ := hY i ι' H' x H'' M' its.2[i] st m' hck hy (List.getElem?_eq_getElem hlt)
      cases ea : asgT t its.2[i] (wipeR ρ own) with
      | none => rw [ea] at ec; cases ec
      | some ρ2 =>
        rw [ea] at ec
        simp only at ec
        have st2 : Step K ι1 H1 ι' H'' := st.trans sy
        have hDv2 : H'' Dl = some (.lst vs) := sy.fr Dl _ hDv hDn
        refine ⟨ι', its.2[i], _, ρ2, ry, (r1.mono st2).wipe _, ea, fun σ2 rr2 so => ⟨wipe_same so hsub, ι', ρ2, M', my, rr2, ?_⟩⟩
        cases et : ft ρ2 M' with
        | err c as M2 => rw [et] at ec; cases ec
        | bad => rw [et] at ec; cases ec
        | ok b M2 =>
          rw [et] at ec
          simp only [R.bind] at ec
          rintro ι3 H3 b' st3 m3 rb
          have rb : b = b' := rb
          subst rb
          have hDn3 : Dl ∉ ι3 := by
            obtain ⟨tl, e3, hf⟩ := st3.pre
            rw [e3]
            intro z
            rcases List.mem_append.mp z with z | z
            · exact hDn z
            · rw [hf _ z] at hDv2; cases hDv2
          have hDv3 : H3 Dl = some (.lst vs) := st3.fr Dl _ hDv2 hDn
          cases b with
          | false =>
            simp only [Bool.false_eq_true, if_false] at ec ⊢
            exact ⟨ι3, M2, acc, vs, st2.trans st3, m3, hDn3, hDv3, (ra.mono sy).mono st3, ec⟩
          | true =>
            simp only [if_true] at ec ⊢
            refine ⟨ι3, ρ2, M2, m3, rr2.mono st3, ?_⟩
            cases ee : fe ρ2 M2 with
            | err c as M2 => rw [ee] at ec; cases ec
            | bad => rw [ee] at ec; cases ec
            | ok y M4 =>
              rw [ee] at ec
              simp only at ec
              split at ec
              · rename_i hz
                rintro ι4 H4 yv st4 m4 ry4
                have hDn4 : Dl ∉ ι4 := by
                  obtain ⟨tl, e3, hf⟩ := st4.pre
                  rw [e3]
                  intro z
                  rcases List.mem_append.mp z with z | z
                  · exact hDn3 z
                  · rw [hf _ z] at hDv3; cases hDv3
                have hDv4 : H4 Dl = some (.lst vs) := st4.fr Dl _ hDv3 hDn3
                have ra4 : Reps K ι4 H4 acc vs := ((ra.mono sy).mono st3).mono st4
                refine ⟨vs, hDv4, by rw [← ra4.length]; exact szl hz, ι4, M4, acc ++ [y], vs ++ [yv], ?_, m4.upd hDv4 plain_lst hDn4, hDn4, upd_same, ?_, ec⟩
                · exact ((st2.trans st3).trans st4).updO hDv4 plain_lst hD
                · exact Reps.upd hDv4 plain_lst _ _ (ra4.append (.cons ry4 .nil))
              · cases ec
    · cases ec
  · rintro H' ⟨ι', M', acc, vs, st, m', hDn, hDv, ra, ec⟩
    rw [List.drop_of_length_le (by omega)] at ec
    simp only [compL] at ec
    split at ec
    · cases ec
      refine p2 (ι' ++ [Dl]) H' _ ?_ (m'.take hDn ⟨vs, hDv, Reps.ext _ _ ra⟩) (.cell ?_)
      · obtain ⟨tl, e3, hf⟩ := st.pre
        refine ⟨⟨tl ++ [Dl], by rw [e3, List.append_assoc], fun x hx => ?_⟩, st.fr, st.dom, st.tups, st.frzs, st.lock⟩
        rcases List.mem_append.mp hx with z | z
        · exact hf x z
        · simp at z; subst z; exact hD
      · rw [← m'.len]; simp
    · cases ec
theorem e_comp {elt tg iter : Expr} {ifs : List Expr} {scope : Scope} {own : List (Str × Nat)} {pos : Pos} {t : Tg} {fI : Rho → Mem → R Its} {ft : Rho → Mem → R Bool} {fe : Rho → Mem → R D} (hc : X.calm = true) (hN : X.N.Nodup) (hi : PIx X ex W tg iter fI) (ok : BlkOk X.N X.env.scope scope own)
    (hg : ∀ (s : Shared) (H : Hp) (C : Addr) (cl : List (Str × Addr)) (fp : List Addr), PG (X.blk s H scope (compEnvC scope cl C X.env) fp) tg (gT X.K t)) (ht : ∀ (s : Shared) (H : Hp) (C : Addr) (cl : List (Str × Addr)) (fp : List Addr), PTs (X.blk s H scope (compEnvC scope cl C X.env) fp) ifs (tT X.K ex W0 ft))
    (he : ∀ (s : Shared) (H : Hp) (C : Addr) (cl : List (Str × Addr)) (fp : List Addr), PEx (X.blk s H scope (compEnvC scope cl C X.env) fp) ex W0 elt fe) (hsub : ∀ i ∈ slotsT t, i ∈ own.map (·.2)) (hs : ∀ x, foldedSetIterable iter X.env x = pure x) :
    PEx X ex W (.ListComp elt [⟨tg, iter, ifs, 0⟩] scope pos) (semComp (own.map (·.2)) t fI ft fe) :=
  (pe_lc (te := tE X.K ex W0 fe) hc hN hi ok hg ht he hs).imp fun _ _ _ p => rd_comp hsub p
theorem ts_nil : PTs X [] (tT X.K ex W fun _ M => .ok true M) := ⟨fun pins s σ H Q I h => pts_nil.run pins s σ H Q I (by
  obtain ⟨ι, ρ, M, m, r, p⟩ := h
  exact p.now m rfl)⟩
theorem ts_one {c : Expr} {f : Rho → Mem → R Bool} (h : PTx X ex W c f) : PTs X [c] (tT X.K ex W f) := pts_one h
end
end J

namespace J
open PySem PySem.Spec
open PyProof.Rows L2
/-! ## enumerate of what stands in a tuple -/
theorem enum_newB {v : Value} {o : Obj} {H : Heap → Prop} (B : Begins v o H) :
    Meets (Builtin.«enumerate.__new__» ⟨[.type "enumerate", v], []⟩) (fun _ R s => H s.heap ∧
      R (.ok (.ret (.ref (s.heap.push o).objs.size))) { s with heap := (s.heap.push o).push { cls := .type "enumerate", data := .fields #[.none, .bool false, .ref s.heap.objs.size, rawInt 0, .none, .none] } }) :=
  .of_wp fun prog w A R s h => by
    obtain ⟨hp, g, d, tk, os⟩ := s
    obtain ⟨h1, h⟩ := h
    have subE := sub_enumerate
    have go : ∀ {A' : Around} {E : Value → Shared → Prop} {Q : Value → Shared → Prop}, Q (.ref hp.objs.size) ⟨hp.push o, g, d, tk, os⟩ → wpAny (model prog w) A' (pyIter v) Q E ⟨hp, g, d, tk, os⟩ :=
      fun z => B.iter prog w _ _ ⟨hp, g, d, tk, os⟩ _ h1 z
    wp_walk using go
    refine wpAny_stack_any fun st => wpAny_pure ?_
    split
    · rename_i c _ _ _ _ _
      cases (c == Value.type "enumerate")
      · wp_walk using go
        exact ⟨_, rfl, h⟩
      · wp_walk using go
        exact ⟨_, rfl, h⟩
    · wp_walk using go
      exact ⟨_, rfl, h⟩
theorem call_enumB {prog : Program} {w : World} {A : Around} {E : Value → Shared → Prop} {s : Shared} {v : Value} {o : Obj} {H : Heap → Prop} {Q : Value → Shared → Prop} (B : Begins v o H) (h1 : H s.heap)
    (h : ∀ h', IsEnum h' (s.heap.objs.size + 1) s.heap.objs.size 0 .none → h'.get? s.heap.objs.size = some o → h'.objs.size = s.heap.objs.size + 2 →
      (∀ b u, s.heap.get? b = some u → h'.get? b = some u) → Q (.ref (s.heap.objs.size + 1)) { s with heap := h' }) :
    wpAny (model prog w) A (call (.type "enumerate") [v]) Q E s := by
  refine callType_new F.called_enumerate (by decide) (F.typeCall_enumerate_1 _) (F.newCall_enumerate_1 _) (fun ob => F.args_object_init_2 ob _) F.entry_enumerate_new (enum_newB B) ⟨h1, ?_⟩
  have sz1 : (s.heap.push o).objs.size = s.heap.objs.size + 1 := Heap.size_push ..
  show _ ∧ _
  rw [sz1]
  have he : IsEnum ((s.heap.push o).push { cls := .type "enumerate", data := .fields #[.none, .bool false, .ref s.heap.objs.size, rawInt 0, .none, .none] }) (s.heap.objs.size + 1) s.heap.objs.size 0 .none := by
    have z := Heap.get?_push_size (s.heap.push o) (o := { cls := .type "enumerate", data := .fields #[.none, .bool false, .ref s.heap.objs.size, rawInt 0, .none, .none] }) rfl
    rw [sz1] at z
    exact z
  exact ⟨⟨_, he, rfl⟩, h _ he (Heap.get?_push_of_some _ (Heap.get?_push_size _ B.free)) (by rw [Heap.size_push, sz1]) fun b u x => Heap.get?_push_of_some _ (Heap.get?_push_of_some _ x)⟩
/-- the tuple at a, each item in a new pair -/
def IteT (K : PySem.W.Frag) (a : Addr) : It :=
  ⟨fun i H => ∃ (xs : List V) (x : V), SqT K H a xs ∧ xs[i]? = some x, fun i H v H' => ∃ T x, v = .ref T ∧ H T = none ∧ H' = upd H T (.tup [.int (i : Nat), x]) ∧ ∀ xs, SqT K H a xs → xs[i]? = some x, fun i H => ∃ xs : List V, SqT K H a xs ∧ xs.length ≤ i⟩
theorem turn_enumT {P : Program} {w : World} {K : PySem.W.Frag} {elts : List Expr} {kk : Nat} {tpos : Pos} (a e it : Addr) (hai : a ≠ it) :
    Turn P w K (.Tuple elts kk tpos) (IteT K a) [e, it] e (fun i h => i < sizeLine + 1 ∧ (∃ old, IsEnum h e it ((i : Nat) : Int) old) ∧ h.IsTupleIter it a i ∧ e ≠ it ∧ e ≠ a) where
  mem := by simp
  obj := fun i h st b hb => by
    obtain ⟨_, ⟨old, he⟩, ⟨o, ho, hc, hd⟩, _⟩ := st
    have e' : b = e ∨ b = it := by simpa using hb
    rcases e' with z | z
    · rw [z]; exact ⟨_, he, fun v q => nomatch q⟩
    · rw [z]; exact ⟨o, ho, fun v q => by rw [hd] at q; cases q⟩
  keep := fun i h h' st k => by
    obtain ⟨hz, ⟨old, he⟩, hi, hne⟩ := st
    exact ⟨hz, ⟨old, k e (by simp) _ he⟩, hi.at fun o q => k it (by simp) o q, hne⟩
  item := by
    intro X hP hw hK hc i pins s σ H E I hf st hg
    subst hP hw hK
    obtain ⟨hz0, ⟨old, he⟩, hit, hne, hea⟩ := st
    obtain ⟨xs, x, hq, hx⟩ := hg
    obtain ⟨its, rv, p, hz⟩ := I.tuple hq
    obtain ⟨u, hu, ru⟩ := rv.get hx
    have hel : e < s.heap.objs.size := Heap.lt_size he
    have hil : it < s.heap.objs.size := by obtain ⟨_, q, _⟩ := hit; exact Heap.lt_size q
    have hlen : i < its.toArray.size := by
      have := (List.getElem?_eq_some_iff.mp hu).1
      simpa using this
    refine wpAny_pyNext_enum_itemD (Draws.tuple (prog := X.prog) (w := X.w) (A := X.A.in1) (I.ok.hd hc) it a hai its.toArray) he ⟨hit, p⟩ hlen hne (by simp [hne, hea]) fun y h' tk hy ho hit' hT hsz hk => ?_
    have ey : y = u := by
      have h2 : its.toArray[i]? = some u := by simpa using hu
      rw [h2] at hy
      exact (Option.some.inj hy).symm
    subst ey
    refine ⟨_, rfl, wpAny_letOwnedTupleGo_enum (s := { s with heap := h', toks := tk + 1 }) ho fun h'' he' sb => ?_⟩
    have hT2 : h''.get? s.heap.objs.size = some { cls := .type "tuple", data := .seq #[.int i tk, y] } := (sb.2 _ (Nat.ne_of_gt hel)).trans hT
    have new : ObjOk X.prog X.w (upd H s.heap.objs.size (.tup [.int (i : Nat), x])) h'' s.heap.objs.size (.tup [.int (i : Nat), x]) :=
      ⟨by show 2 ≤ sizeLine; decide, [.int i tk, y], .cons ⟨_, rfl⟩ (.cons ru .nil), ⟨_, hT2, rfl, _, rfl⟩⟩
    have I1 : Inv X pins σ (upd H s.heap.objs.size (.tup [.int (i : Nat), x])) { s with heap := h'', toks := tk + 1 } :=
      I.turnedNew (ch := [e, it]) (fun b ob hb q => (sb.2 b (fun z => hb (by simp [z]))).trans (hk b ob (fun z => hb (by simp [z])) (fun z => hb (by simp [z])) q)) hf (Nat.le_refl _) new
    refine ⟨.ref s.heap.objs.size, _, I1, rfl, ⟨_, x, rfl, I.hok.fresh (Nat.le_refl _), rfl, fun ys hy => by rw [I.tuple_inj hy hq]; exact hx⟩, ⟨?_, ⟨y, ?_⟩, hit'.1.at fun o q => (sb.2 it (Ne.symm hne)).trans q, hne, hea⟩, fun b hb => ?_⟩
    · have := rv.length
      have h3 : i < xs.length := (List.getElem?_eq_some_iff.mp hx).1
      omega
    · have e1 : ((i + 1 : Nat) : Int) = (i : Int) + 1 := by omega
      rw [e1]; exact he'
    · have hb' : b < s.heap.objs.size := by
        have e' : b = e ∨ b = it := by simpa using hb
        rcases e' with z | z
        · rw [z]; exact hel
        · rw [z]; exact hil
      rw [upd_ne (Nat.ne_of_lt hb')]
      exact (hf b hb).1
  done := by
    intro X hP hw hK hc i pins s σ H E I hf st hg
    subst hP hw hK
    obtain ⟨hz0, ⟨old, he⟩, hit, hne, hea⟩ := st
    obtain ⟨xs, hq, hx⟩ := hg
    obtain ⟨its, rv, p, hz⟩ := I.tuple hq
    obtain ⟨f0, f1, f2, f3, f4, f5⟩ := hf it (by simp)
    have hl := rv.length
    have hT : s.TypeIs (.ref e) "enumerate" := ⟨_, he, rfl⟩
    unfold pyNext
    refine wpAny_bind (wpAny_attempt (wpAny_callSpecial?_slot (name := Str.ofString "__next__") hT F.slot_enumerate_next (wpAny_call_entry F.slot_enumerate_next hT F.entry_enumerate_next ?_ (F.args_enumerate_next_1 _))))
    show wpAny _ _ (field (.ref e) 2 >>= _) _ _ _
    refine wpAny_bind (wpAny_field he rfl (x := .ref it) rfl ?_)
    refine wpAny_bind (wpAny_nextOf_tuple_end (I.ok.hd hc) hit p (by simp; omega) fun h' ex hx' hs => ?_)
    obtain ⟨o, ho, hc'⟩ := hs
    refine wpAny_bind (wpAny_isInstance (T := "StopIteration") (b := true) ⟨o, ho, hc'⟩ isSubtype_stop ?_)
    exact wpAny_pure ⟨rfl, I.turned (t' := s.toks) (fun b o hb q => hx' b o hb q) f0 f1 f3 f4 f5⟩
  self := fun A i s Q E st h => by
    obtain ⟨_, ⟨_, he⟩, _⟩ := st
    exact wpAny_pyIter_enum he h
def iEnumA (K : PySem.W.Frag) (ta : TA) : TI := fun σ H R => ta σ H fun vs H1 => ∃ a xs, vs = [.ref a] ∧ ((SqL K H1 a xs ∧ R (Ite K a) H1) ∨ (SqT K H1 a xs ∧ R (IteT K a) H1))
theorem pi_enumA {X : Cx} {e : Expr} {ta : TA} {p pos tpos : Pos} {elts : List Expr} {kk : Nat} (hg : Gl X "enumerate") (hm : X.mg "enumerate" = none) (ha : PA X [e] ta) (hs : starEach [e] X.env = [(false, eval e X.env)]) :
    PI X (.Tuple elts kk tpos) (.Call (.Name "enumerate" p) [e] [] pos) (iEnumA X.K ta) := by
  refine ⟨fun pins s σ H R I h => ?_⟩
  refine Call_ (ld_blt I hg hm boot_enumerate (PyProof.Rows.callWith_type1 (thn (ha.run pos pins s σ H _ I h) fun us s1 ⟨vs, H1, I1, r1, q1⟩ => ?_) hs rfl))
  obtain ⟨a, xs, ex, q⟩ := q1
  subst ex
  cases r1 with
  | cons r rr =>
    cases rr
    cases r
    have fresh2 : ∀ b, b ∈ [s1.heap.objs.size + 1, s1.heap.objs.size] → FpOk X pins H1 b := fun b hb => by
      have e' : b = s1.heap.objs.size + 1 ∨ b = s1.heap.objs.size := by simpa using hb
      have hle : s1.heap.objs.size ≤ b := by
        rcases e' with z | z
        · rw [z]; exact Nat.le_add_right _ _
        · rw [z]; exact Nat.le_refl _
      exact I1.fpOk hle (I1.hok.fresh hle)
    rcases q with ⟨hq, q⟩ | ⟨hq, q⟩
    · obtain ⟨its, rv, p', hz⟩ := I1.list hq
      refine call_enumerate_list p'.isList fun h' he hit hsz hk => wpAny_pyIter_enum he ?_
      have I2 : Inv X pins σ H1 { s1 with heap := h' } := I1.kept (t' := s1.toks) hk
      exact ⟨s1.heap.objs.size + 1, [s1.heap.objs.size + 1, s1.heap.objs.size], _, _, H1, rfl, I2, turn_enum a (s1.heap.objs.size + 1) s1.heap.objs.size, ⟨⟨.none, he⟩, hit, Nat.succ_ne_self _⟩, fresh2, q⟩
    · obtain ⟨its, rv, p', hz⟩ := I1.tuple hq
      have hlt : a < s1.heap.objs.size := by obtain ⟨o, ho, _⟩ := id p'; exact Heap.lt_size ho
      refine call_enumB (begins_tuple a its.toArray) (show s1.heap.IsTuple a its.toArray from p') fun h' he hit hsz hk => wpAny_pyIter_enum he ?_
      have I2 : Inv X pins σ H1 { s1 with heap := h' } := I1.kept (t' := s1.toks) hk
      exact ⟨s1.heap.objs.size + 1, [s1.heap.objs.size + 1, s1.heap.objs.size], _, _, H1, rfl, I2, turn_enumT a (s1.heap.objs.size + 1) s1.heap.objs.size (Nat.ne_of_lt hlt), ⟨by decide, ⟨.none, he⟩, ⟨_, hit, rfl, rfl⟩, Nat.succ_ne_self _, Nat.ne_of_gt (Nat.lt_succ_of_lt hlt)⟩, fresh2, q⟩
end J

namespace J
open PySem PySem.Spec
open PyProof.Rows L2
/-! ## pairs that are walked -/
section
variable {K : PySem.W.Frag} {ι : List Addr} {H : Hp} {M : Mem}
theorem ypair {p q : Nat → Option V} {i : Nat} {x : V} {H' : Hp} {d e : D} (m : RepM K ι H M) (hp : ∀ v, p i = some v → Rep K ι H d v) (hq : ∀ v, q i = some v → Rep K ι H e v) (y : YPair p q i H x H') :
    Step K ι H ι H' ∧ RepM K ι H' M ∧ Rep K ι H' (.tup [d, e]) x := by
  obtain ⟨T, a, b, rfl, hT, rfl, h1, h2⟩ := y
  have st : Step K ι H ι (upd H T (.tup [a, b])) := by simpa using step_new (K := K) (ι := ι) (o := .tup [a, b]) hT [] (by simp)
  exact ⟨st, m.keep hT, .tup (.of upd_same) (.cons ((hp _ h1).mono st) (.cons ((hq _ h2).mono st) .nil))⟩
/-- a list that is walked: its address, what has to stay -/
def SrcL (K : PySem.W.Frag) (ι : List Addr) (H : Hp) (a : Addr) (s : Its) : Prop := ∀ ι' H' M', Step K ι H ι' H' → RepM K ι' H' M' → chk M' s.1 = true → ∃ vs, SqL K H' a vs ∧ Reps K ι' H' s.2 vs
theorem srcL_of {d : D} {a : Addr} {s : Its} {v : V} (r : Rep K ι H d v) (ev : v = .ref a) (e : itD M d = some s) (hd : ∀ ds, d ≠ .tup ds) : SrcL K ι H a s := by
  subst ev
  cases d with
  | tup ds => exact (hd ds rfl).elim
  | rol ds =>
    cases e
    obtain ⟨b, vs, eb, hs, rs⟩ := rep_rol r
    cases eb
    exact fun ι' H' M' st m hc => ⟨vs, (st.frzs _ _ hs).l, rs.mono st⟩
  | cell n =>
    obtain ⟨b, eb, ha⟩ := rep_cell r
    cases eb
    simp only [itD] at e
    cases e1 : lstAt M n with
    | none => rw [e1] at e; cases e
    | some ds =>
      rw [e1] at e; cases e
      refine fun ι' H' M' st m hc => ?_
      obtain ⟨ws, h1, r1⟩ := lst_at m (st.get ha) (chk_one hc)
      exact ⟨ws, .of h1, r1⟩
  | _ => cases e
theorem rep_ref {d : D} {v : V} {s : Its} (r : Rep K ι H d v) (e : itD M d = some s) : ∃ a, v = .ref a := by
  cases d with
  | tup ds => obtain ⟨a, vs, rfl, _, _⟩ := rep_tup r; exact ⟨a, rfl⟩
  | rol ds => obtain ⟨a, vs, rfl, _, _⟩ := rep_rol r; exact ⟨a, rfl⟩
  | cell n => obtain ⟨a, rfl, _⟩ := rep_cell r; exact ⟨a, rfl⟩
  | _ => cases e
theorem zip_len : ∀ {xs ys : List D}, (zipD xs ys).length = min xs.length ys.length
  | [], _ => by simp [zipD]
  | _ :: _, [] => by simp [zipD]
  | x :: xs, y :: ys => by simp only [zipD, List.length_cons, zip_len]; omega
theorem zip_get : ∀ {xs ys : List D} {i : Nat} {d : D}, (zipD xs ys)[i]? = some d → ∃ x y, d = .tup [x, y] ∧ xs[i]? = some x ∧ ys[i]? = some y
  | [], ys, i, d, h => by simp [zipD] at h
  | _ :: _, [], i, d, h => by simp [zipD] at h
  | x :: xs, y :: ys, 0, d, h => by simp [zipD] at h; subst h; exact ⟨x, y, rfl, by simp, by simp⟩
  | x :: xs, y :: ys, i + 1, d, h => by
    simp only [zipD, List.getElem?_cons_succ] at h
    obtain ⟨a, b, e, h1, h2⟩ := zip_get h
    exact ⟨a, b, e, by simpa using h1, by simpa using h2⟩
theorem enu_len : ∀ {xs : List D} {k : Nat}, (enuD k xs).length = xs.length
  | [], _ => rfl
  | x :: xs, k => by simp [enuD, enu_len]
theorem enu_get : ∀ {xs : List D} {k i : Nat} {d : D}, (enuD k xs)[i]? = some d → ∃ x, d = .tup [.int ((k + i : Nat) : Int), x] ∧ xs[i]? = some x
  | [], k, i, d, h => by simp [enuD] at h
  | x :: xs, k, 0, d, h => by simp [enuD] at h; subst h; exact ⟨x, rfl, by simp⟩
  | x :: xs, k, i + 1, d, h => by
    simp only [enuD, List.getElem?_cons_succ] at h
    obtain ⟨a, e, h1⟩ := enu_get h
    exact ⟨a, by rw [e]; congr 4; omega, by simpa using h1⟩
theorem walk_zipLA {a b : Addr} {n : Nat} : Walk (Itz K a b) n (fun H => ∃ xs ys, SqL K H a xs ∧ SqL K H b ys ∧ n = min xs.length ys.length)
    (fun i H v H' => ∃ T x y, v = .ref T ∧ H T = none ∧ H' = upd H T (.tup [x, y]) ∧ (∀ xs, SqL K H a xs → xs[i]? = some x) ∧ ∀ ys, SqL K H b ys → ys[i]? = some y) := by
  refine ⟨fun i H hi ⟨xs, ys, h1, h2, hn⟩ => ?_, fun H ⟨xs, ys, h1, h2, hn⟩ => ⟨xs, ys, h1, h2, by omega⟩, fun i H v H' _ _ y => y⟩
  have g1 : i < xs.length := by omega
  have g2 : i < ys.length := by omega
  exact ⟨xs, ys, xs[i], ys[i], h1, h2, by simp [g1], by simp [g2]⟩
theorem walk_zipTT {a b : Addr} {n : Nat} : Walk (RZ.ItzT K a b) n (fun H => ∃ xs ys, SqT K H a xs ∧ SqT K H b ys ∧ n = min xs.length ys.length)
    (fun i H v H' => ∃ T x y, v = .ref T ∧ H T = none ∧ H' = upd H T (.tup [x, y]) ∧ (∀ xs, SqT K H a xs → xs[i]? = some x) ∧ ∀ ys, SqT K H b ys → ys[i]? = some y) := by
  refine ⟨fun i H hi ⟨xs, ys, h1, h2, hn⟩ => ?_, fun H ⟨xs, ys, h1, h2, hn⟩ => ⟨xs, ys, h1, h2, by omega⟩, fun i H v H' _ _ y => y⟩
  have g1 : i < xs.length := by omega
  have g2 : i < ys.length := by omega
  exact ⟨xs, ys, xs[i], ys[i], h1, h2, by simp [g1], by simp [g2]⟩
theorem walk_enuLA {a : Addr} {n : Nat} : Walk (Ite K a) n (fun H => ∃ xs, SqL K H a xs ∧ n = xs.length) (fun i H v H' => ∃ T x, v = .ref T ∧ H T = none ∧ H' = upd H T (.tup [.int (i : Nat), x]) ∧ ∀ xs, SqL K H a xs → xs[i]? = some x) := by
  refine ⟨fun i H hi ⟨xs, h1, hn⟩ => ⟨xs, xs[i]'(by omega), h1, by simp [show i < xs.length by omega]⟩, fun H ⟨xs, h1, hn⟩ => ⟨xs, h1, by omega⟩, fun i H v H' _ _ y => y⟩
theorem walk_enuTT {a : Addr} {n : Nat} : Walk (IteT K a) n (fun H => ∃ xs, SqT K H a xs ∧ n = xs.length) (fun i H v H' => ∃ T x, v = .ref T ∧ H T = none ∧ H' = upd H T (.tup [.int (i : Nat), x]) ∧ ∀ xs, SqT K H a xs → xs[i]? = some x) := by
  refine ⟨fun i H hi ⟨xs, h1, hn⟩ => ⟨xs, xs[i]'(by omega), h1, by simp [show i < xs.length by omega]⟩, fun H ⟨xs, h1, hn⟩ => ⟨xs, h1, by omega⟩, fun i H v H' _ _ y => y⟩
theorem walkD_zipL {a b : Addr} {s t : Its} (h1 : SrcL K ι H a s) (h2 : SrcL K ι H b t) : WalkD K ι H (Itz K a b) (s.1 ++ t.1, zipD s.2 t.2) := by
  refine ⟨_, _, _, walk_zipLA, rfl, fun ι' H' M' st m hc => ?_, fun i ι' H' x H'' M' d st m hc y e => ?_⟩
  · obtain ⟨c1, c2⟩ := chk_app hc
    obtain ⟨xs, q1, r1⟩ := h1 ι' H' M' st m c1
    obtain ⟨ys, q2, r2⟩ := h2 ι' H' M' st m c2
    exact ⟨xs, ys, q1, q2, by rw [zip_len, r1.length, r2.length]⟩
  · obtain ⟨c1, c2⟩ := chk_app hc
    obtain ⟨xs, q1, r1⟩ := h1 ι' H' M' st m c1
    obtain ⟨ys, q2, r2⟩ := h2 ι' H' M' st m c2
    obtain ⟨dx, dy, rfl, g1, g2⟩ := zip_get e
    obtain ⟨T, vx, vy, ev, hT, eH, k1, k2⟩ := y
    refine ypair (p := fun i => xs[i]?) (q := fun i => ys[i]?) (i := i) m (fun v hv => ?_) (fun v hv => ?_) ⟨T, vx, vy, ev, hT, eH, k1 xs q1, k2 ys q2⟩
    · obtain ⟨w, ew, rw'⟩ := r1.get g1
      rw [hv] at ew; cases ew; exact rw'
    · obtain ⟨w, ew, rw'⟩ := r2.get g2
      rw [hv] at ew; cases ew; exact rw'
theorem walkD_zipT {a b : Addr} {vs ws : List V} {ds es : List D} (h1 : SqT K H a vs) (r1 : Reps K ι H ds vs) (h2 : SqT K H b ws) (r2 : Reps K ι H es ws) : WalkD K ι H (RZ.ItzT K a b) ([], zipD ds es) := by
  refine ⟨_, _, _, walk_zipTT, rfl, fun ι' H' M' st m hc => ⟨vs, ws, st.tups _ _ h1, st.tups _ _ h2, by rw [zip_len, r1.length, r2.length]⟩, fun i ι' H' x H'' M' d st m hc y e => ?_⟩
  obtain ⟨dx, dy, rfl, g1, g2⟩ := zip_get e
  obtain ⟨T, vx, vy, ev, hT, eH, k1, k2⟩ := y
  refine ypair (p := fun i => vs[i]?) (q := fun i => ws[i]?) (i := i) m (fun v hv => ?_) (fun v hv => ?_) ⟨T, vx, vy, ev, hT, eH, k1 vs (st.tups _ _ h1), k2 ws (st.tups _ _ h2)⟩
  · obtain ⟨w, ew, rw'⟩ := (r1.mono st).get g1
    rw [hv] at ew; cases ew; exact rw'
  · obtain ⟨w, ew, rw'⟩ := (r2.mono st).get g2
    rw [hv] at ew; cases ew; exact rw'
theorem walkD_enuL {a : Addr} {s : Its} (h1 : SrcL K ι H a s) : WalkD K ι H (Ite K a) (s.1, enuD 0 s.2) := by
  refine ⟨_, _, _, walk_enuLA, rfl, fun ι' H' M' st m hc => ?_, fun i ι' H' x H'' M' d st m hc y e => ?_⟩
  · obtain ⟨xs, q1, r1⟩ := h1 ι' H' M' st m hc
    exact ⟨xs, q1, by rw [enu_len, r1.length]⟩
  · obtain ⟨xs, q1, r1⟩ := h1 ι' H' M' st m hc
    obtain ⟨dx, rfl, g1⟩ := enu_get e
    obtain ⟨T, vx, ev, hT, eH, k1⟩ := y
    refine ypair (p := fun i => some (.int (i : Nat))) (q := fun i => xs[i]?) (i := i) m (fun v hv => ?_) (fun v hv => ?_) ⟨T, _, vx, ev, hT, eH, rfl, k1 xs q1⟩
    · cases hv; rw [Nat.zero_add]; exact .int
    · obtain ⟨w, ew, rw'⟩ := r1.get g1
      rw [hv] at ew; cases ew; exact rw'
theorem walkD_enuT {a : Addr} {vs : List V} {ds : List D} (h1 : SqT K H a vs) (r1 : Reps K ι H ds vs) : WalkD K ι H (IteT K a) ([], enuD 0 ds) := by
  refine ⟨_, _, _, walk_enuTT, rfl, fun ι' H' M' st m hc => ⟨vs, st.tups _ _ h1, by rw [enu_len, r1.length]⟩, fun i ι' H' x H'' M' d st m hc y e => ?_⟩
  obtain ⟨dx, rfl, g1⟩ := enu_get e
  obtain ⟨T, vx, ev, hT, eH, k1⟩ := y
  refine ypair (p := fun i => some (.int (i : Nat))) (q := fun i => vs[i]?) (i := i) m (fun v hv => ?_) (fun v hv => ?_) ⟨T, _, vx, ev, hT, eH, rfl, k1 vs (st.tups _ _ h1)⟩
  · cases hv; rw [Nat.zero_add]; exact .int
  · obtain ⟨w, ew, rw'⟩ := (r1.mono st).get g1
    rw [hv] at ew; cases ew; exact rw'
end
section
variable {X : Cx} {ex : Exs} {W : WX} {fs : Rho → Mem → R (List D)} {p pos tpos : Pos} {elts : List Expr} {kk : Nat}
def semZip (fs : Rho → Mem → R (List D)) : Rho → Mem → R Its := fun ρ M => (fs ρ M).bind fun ds M => match ds with
  | [x, y] => valO M (zipI M x y)
  | _ => .bad
theorem i_zip {a b : Expr} (hg : Gl X "zip") (hm : X.mg "zip" = none) (ha : PAx X ex W [a, b] fs) (hs : starEach [a, b] X.env = (false, eval a X.env) :: starEach [b] X.env) (hpl : (backTo pos (starEach [b] X.env)).any (·.1) = false) :
    PIx X ex W (.Tuple elts kk tpos) (.Call (.Name "zip" p) [a, b] [] pos) (semZip fs) := by
  refine (RZ.pi_zipA hg hm ha hs hpl).imp ?_
  rintro σ H Q ⟨ι, ρ, M, m, r, p⟩
  refine ⟨ι, ρ, M, m, r, p.seq.imp ?_⟩
  rintro vs H1 ⟨ds, ι1, M1, st, m1, rs, e, p1⟩
  have lists : ∀ {x y : D} {v w : V}, vs = [v, w] → Rep X.K ι1 H1 x v → Rep X.K ι1 H1 y w → (∀ ds, x ≠ .tup ds) → (∀ ds, y ≠ .tup ds) → Post X.K ex (relI X.K) (fun c d H => W c d σ H) ι1 H1 (valO M1 ((itD M1 x).bind fun s => (itD M1 y).map fun t => (s.1 ++ t.1, zipD s.2 t.2))) Q →
      ∃ a b xs ys, vs = [.ref a, .ref b] ∧ ((SqL X.K H1 a xs ∧ SqL X.K H1 b ys ∧ Q (Itz X.K a b) H1) ∨ (SqT X.K H1 a xs ∧ SqT X.K H1 b ys ∧ Q (RZ.ItzT X.K a b) H1)) := by
    intro x y v w ev rx ry hx hy p1
    cases e1 : itD M1 x with
    | none => rw [e1] at p1; exact p1.elim
    | some s =>
      cases e2 : itD M1 y with
      | none => rw [e1, e2] at p1; exact p1.elim
      | some t =>
        rw [e1, e2] at p1
        obtain ⟨a, rfl⟩ := rep_ref rx e1
        obtain ⟨b, rfl⟩ := rep_ref ry e2
        have s1 := srcL_of rx rfl e1 hx
        have s2 := srcL_of ry rfl e2 hy
        have chk0 : ∀ {d : D} {s : Its}, itD M1 d = some s → chk M1 s.1 = true := by
          intro d s h
          cases d with
          | tup ds => cases h; rfl
          | rol ds => cases h; rfl
          | cell n =>
            simp only [itD] at h
            cases e3 : lstAt M1 n with
            | none => rw [e3] at h; cases h
            | some ds => rw [e3] at h; cases h; simp [chk, lstAt_eq e3]
          | _ => cases h
        obtain ⟨xs, q1, _⟩ := s1 ι1 H1 M1 .refl m1 (chk0 e1)
        obtain ⟨ys, q2, _⟩ := s2 ι1 H1 M1 .refl m1 (chk0 e2)
        exact ⟨a, b, xs, ys, ev, .inl ⟨q1, q2, p1.now m1 (walkD_zipL s1 s2)⟩⟩
  match ds, rs, p1 with
  | [x, y], rs, p1 =>
    obtain ⟨v, w, rfl, rx, ry⟩ := reps2 rs
    cases x with
    | tup ds1 =>
      cases y with
      | tup ds2 =>
        obtain ⟨a, us1, rfl, h1, r1⟩ := rep_tup rx
        obtain ⟨b, us2, rfl, h2, r2⟩ := rep_tup ry
        exact ⟨a, b, us1, us2, rfl, .inr ⟨h1, h2, p1.now m1 (walkD_zipT h1 r1 h2 r2)⟩⟩
      | _ => exact p1.elim
    | rol ds1 =>
      cases y with
      | tup ds2 => exact p1.elim
      | _ => exact lists rfl rx ry (by intro _ z; cases z) (by intro _ z; cases z) p1
    | cell n1 =>
      cases y with
      | tup ds2 => exact p1.elim
      | _ => exact lists rfl rx ry (by intro _ z; cases z) (by intro _ z; cases z) p1
    | _ =>
      cases y with
      | tup ds2 => exact p1.elim
      | _ => exact p1.elim
  | [], rs, p1 => exact p1.elim
  | [_], rs, p1 => exact p1.elim
  | _ :: _ :: _ :: _, rs, p1 => exact p1.elim
def semEnu (fs : Rho → Mem → R (List D)) : Rho → Mem → R Its := fun ρ M => (fs ρ M).bind fun ds M => match ds with
  | [x] => (valO M (itD M x)).bind fun s M => .ok (s.1, enuD 0 s.2) M
  | _ => .bad
theorem i_enu {a : Expr} (hg : Gl X "enumerate") (hm : X.mg "enumerate" = none) (ha : PAx X ex W [a] fs) (hs : starEach [a] X.env = [(false, eval a X.env)]) :
    PIx X ex W (.Tuple elts kk tpos) (.Call (.Name "enumerate" p) [a] [] pos) (semEnu fs) := by
  refine (pi_enumA hg hm ha hs).imp ?_
  rintro σ H Q ⟨ι, ρ, M, m, r, p⟩
  refine ⟨ι, ρ, M, m, r, p.seq.imp ?_⟩
  rintro vs H1 ⟨ds, ι1, M1, st, m1, rs, e, p1⟩
  match ds, rs, p1 with
  | [x], rs, p1 =>
    obtain ⟨v, rfl, rx⟩ := reps1 rs
    cases x with
    | tup ds1 =>
      obtain ⟨a, us1, rfl, h1, r1⟩ := rep_tup rx
      exact ⟨a, us1, rfl, .inr ⟨h1, p1.now m1 (walkD_enuT h1 r1)⟩⟩
    | rol ds1 =>
      obtain ⟨a, us1, ev, h1, r1⟩ := rep_rol rx
      subst ev
      exact ⟨a, us1, rfl, .inl ⟨h1.l, p1.now m1 (walkD_enuL (srcL_of (M := M1) (s := ([], ds1)) rx rfl rfl (by intro _ z; cases z)))⟩⟩
    | cell n1 =>
      obtain ⟨a, ev, ha⟩ := rep_cell rx
      subst ev
      simp only [itD] at p1
      cases e1 : lstAt M1 n1 with
      | none => rw [e1] at p1; exact p1.elim
      | some ds =>
        rw [e1] at p1
        obtain ⟨us, h1, _⟩ := lst_at m1 ha e1
        exact ⟨a, us, rfl, .inl ⟨.of h1, p1.now m1 (walkD_enuL (srcL_of (M := M1) (s := ([(n1, .lst ds)], ds)) rx rfl (by simp only [itD, e1, Option.map_some]) (by intro _ z; cases z)))⟩⟩
    | _ => exact p1.elim
  | [], rs, p1 => exact p1.elim
  | _ :: _ :: _, rs, p1 => exact p1.elim
end
end J

namespace J
open PySem PySem.Spec
open PyProof.Rows L2
/-! ## comprehensions of dicts -/
theorem dc_it {J : It} {n : Nat} {G : Hp → Prop} {Y : Nat → Hp → V → Hp → Prop} (w : Walk J n G Y) {g : TG} {tt : TT} {tk tv : TE} {vs : List Nat} {σ : L2.St} {H1 : Hp} {D : Addr} {Qd : Hp → Prop} (Pv : Nat → Hp → Prop) (h0 : Pv 0 (upd H1 D (.dK []))) (hG : ∀ i H, i ≤ n → Pv i H → G H)
    (hs : ∀ i x H H', i < n → Pv i H → Y i H x H' → g x (wipe σ vs) H' fun σ2 H2 => wipe σ2 vs = wipe σ vs ∧ tt σ2 H2 fun b H3 =>
      if b = true then tk σ2 H3 fun y H4 => tv σ2 H4 fun z H5 => ∃ kvs k, y = kV k ∧ H5 D = some (.dK kvs) ∧ kvs.length < sizeLine ∧ Pv (i + 1) (upd H5 D (.dK (putK kvs k z))) else Pv (i + 1) H3) (hd : ∀ H, Pv n H → Qd H) :
    ∃ W : Nat → Nat → Hp → Prop, (∃ m, W 0 m (upd H1 D (.dK []))) ∧ ∀ i m H, W i m H →
      (J.stop i H ∧ Qd H) ∨ (J.go i H ∧ ∃ Nx : Hp → Prop, (∀ H', Nx H' → ∃ m', m' < m ∧ W (i + 1) m' H') ∧ ∀ x H', J.yld i H x H' → g x (wipe σ vs) H' fun σ2 H2 => wipe σ2 vs = wipe σ vs ∧ tt σ2 H2 fun b H3 =>
        if b = true then tk σ2 H3 fun y H4 => tv σ2 H4 fun z H5 => ∃ kvs k, y = kV k ∧ H5 D = some (.dK kvs) ∧ kvs.length < sizeLine ∧ Nx (upd H5 D (.dK (putK kvs k z))) else Nx H3) := by
  refine ⟨fun i m H => m = n - i ∧ i ≤ n ∧ Pv i H, ⟨n, by simp, Nat.zero_le _, h0⟩, ?_⟩
  rintro i m H ⟨rfl, hi, p⟩
  have q := hG i H hi p
  by_cases hlt : i < n
  · exact .inr ⟨w.goes i H hlt q, Pv (i + 1), fun H' p' => ⟨n - (i + 1), by omega, rfl, hlt, p'⟩, fun x H' y => hs i x H H' hlt p (w.yields i H x H' hlt q y)⟩
  · have e : i = n := by omega
    subst e
    exact .inl ⟨w.stops H q, hd H p⟩
theorem putKD_len {k : Key} {d : D} {l : List (Key × D)} : (putKD k d l).length ≤ l.length + 1 := by
  unfold putKD
  split
  · simp
  · simp
theorem mergeD_len : ∀ {more acc : List (Key × D)}, (mergeD acc more).length ≤ acc.length + more.length
  | [], acc => by simp [mergeD]
  | p :: t, acc => by
    show (mergeD (putKD p.1 p.2 acc) t).length ≤ _
    have h1 := mergeD_len (more := t) (acc := putKD p.1 p.2 acc)
    have h2 := putKD_len (k := p.1) (d := p.2) (l := acc)
    simp only [List.length_cons]
    omega
theorem mergeD_snoc {acc more : List (Key × D)} {k : Key} {d : D} : mergeD acc (more ++ [(k, d)]) = putKD k d (mergeD acc more) := by
  unfold mergeD
  rw [List.foldl_append]
  rfl
theorem pairsD_len : ∀ {ds : List D} {kvs : List (Key × D)}, pairsD ds = some kvs → kvs.length = ds.length
  | [], kvs, h => by cases h; rfl
  | .tup [k, v] :: r, kvs, h => by
    simp only [pairsD] at h
    cases e : toKey k with
    | none => rw [e] at h; cases h
    | some kk =>
      rw [e, Option.bind_some] at h
      cases e2 : pairsD r with
      | none => rw [e2] at h; cases h
      | some t => rw [e2] at h; cases h; simp [pairsD_len e2]
  | .tup [] :: _, kvs, h => by cases h
  | .tup [_] :: _, kvs, h => by cases h
  | .tup (_ :: _ :: _ :: _) :: _, kvs, h => by cases h
  | .non :: _, kvs, h => by cases h
  | .bl _ :: _, kvs, h => by cases h
  | .int _ :: _, kvs, h => by cases h
  | .str _ :: _, kvs, h => by cases h
  | .rol _ :: _, kvs, h => by cases h
  | .cell _ :: _, kvs, h => by cases h
theorem pairsD_snoc : ∀ {ds : List D} {kvs : List (Key × D)} {x y : D} {k : Key}, pairsD ds = some kvs → toKey x = some k → pairsD (ds ++ [.tup [x, y]]) = some (kvs ++ [(k, y)])
  | [], kvs, x, y, k, h, hk => by cases h; simp [pairsD, hk]
  | .tup [a, v] :: r, kvs, x, y, k, h, hk => by
    simp only [pairsD, List.cons_append] at h ⊢
    cases e : toKey a with
    | none => rw [e] at h; cases h
    | some kk =>
      rw [e, Option.bind_some] at h
      cases e2 : pairsD r with
      | none => rw [e2] at h; cases h
      | some t =>
        rw [e2] at h; cases h
        rw [Option.bind_some, pairsD_snoc e2 hk]
        rfl
  | .tup [] :: _, kvs, x, y, k, h, hk => by cases h
  | .tup [_] :: _, kvs, x, y, k, h, hk => by cases h
  | .tup (_ :: _ :: _ :: _) :: _, kvs, x, y, k, h, hk => by cases h
  | .non :: _, kvs, x, y, k, h, hk => by cases h
  | .bl _ :: _, kvs, x, y, k, h, hk => by cases h
  | .int _ :: _, kvs, x, y, k, h, hk => by cases h
  | .str _ :: _, kvs, x, y, k, h, hk => by cases h
  | .rol _ :: _, kvs, x, y, k, h, hk => by cases h
  | .cell _ :: _, kvs, x, y, k, h, hk => by cases h
section
variable {X : Cx} {ex : Exs} {W : WX}
def semDComp (own : List Nat) (t : Tg) (fI : Rho → Mem → R Its) (ft : Rho → Mem → R Bool) (fk fv : Rho → Mem → R D) : Rho → Mem → R D := fun ρ M => (fI ρ M).bind fun its M => (noErr (compL (fun d => asgT t d (wipeR ρ own)) ft (pairV fk fv) its.1 its.2 [] M)).bind fun ds M => match pairsD ds with
  | some kvs => .ok (.cell M.length) (M ++ [.dic (mergeD [] kvs)])
  | none => .bad
theorem rd_dcomp {K : PySem.W.Frag} {own : List Nat} {t : Tg} {fI : Rho → Mem → R Its} {ft : Rho → Mem → R Bool} {fk fv : Rho → Mem → R D} (hsub : ∀ i ∈ slotsT t, i ∈ own) {σ : L2.St} {H : Hp} {Q : VK}
    (p : tE K ex W (semDComp own t fI ft fk fv) σ H Q) : tDc (tI K ex W fI) (gT K t) (tT K ex W0 ft) (tE K ex W0 fk) (tE K ex W0 fv) own σ H Q := by
  obtain ⟨ι, ρ, M, m, r, p⟩ := p
  refine ⟨ι, ρ, M, m, r, p.seq.imp ?_⟩
  rintro J H1 ⟨its, ι1, M1, st1, m1, wd, e, p1⟩
  obtain ⟨dsF, MF, eF, p2⟩ := noErr_ok p1
  obtain ⟨n, G, Y, wk, hn, hG, hY⟩ := wd
  have r1 : RepRho K ι1 H1 ρ σ := r.mono st1
  intro Dl hD
  refine dc_it wk (fun i H' => ∃ ι' M' acc kvs vs, Step K ι1 H1 ι' H' ∧ RepM K ι' H' M' ∧ Dl ∉ ι' ∧ H' Dl = some (.dK vs) ∧ pairsD acc = some kvs ∧ RepKs K ι' H' (mergeD [] kvs) vs ∧ compL (fun d => asgT t d (wipeR ρ own)) ft (pairV fk fv) its.1 (its.2.drop i) acc M' = .ok dsF MF) ?_ ?_ ?_ ?_
  · have hDn : Dl ∉ ι1 := fun z => m1.live z hD
    have st : Step K ι1 H1 ι1 (upd H1 Dl (.dK [])) := by simpa using step_new (K := K) (ι := ι1) (o := .dK []) hD [] (by simp)
    exact ⟨ι1, M1, [], [], [], st, m1.keep hD, hDn, upd_same, rfl, by simp [mergeD, RepKs], eF⟩
  · rintro i H' hi ⟨ι', M', acc, kvs, vs, st, m', _, _, _, _, ec⟩
    refine hG ι' H' M' st m' ?_
    cases hd : its.2.drop i with
    | nil =>
      rw [hd] at ec
      simp only [compL] at ec
      split at ec
      · assumption
      · cases ec
    | cons d rest =>
      rw [hd] at ec
      simp only [compL] at ec
      split at ec
      · assumption
      · cases ec
  · rintro i x H' H'' hi ⟨ι', M', acc, kvs, vs, st, m', hDn, hDv, hpa, ra, ec⟩ hy
    have hlt : i < its.2.length := by omega
    have hd : its.2.drop i = its.2[i] :: its.2.drop (i + 1) := List.drop_eq_getElem_cons hlt
    rw [hd] at ec
    simp only [compL] at ec
    split at ec
    · rename_i hck
      obtain ⟨sy, my, ry⟩ := hY i ι' H' x H'' M' its.2[i] st m' hck hy (List.getElem?_eq_getElem hlt)
      cases ea : asgT t its.2[i] (wipeR ρ own) with
      | none => rw [ea] at ec; cases ec
      | some ρ2 =>
        rw [ea] at ec
        simp only at ec
        have st2 : Step K ι1 H1 ι' H'' := st.trans sy
        have hDv2 : H'' Dl = some (.dK vs) := sy.fr Dl _ hDv hDn
        refine ⟨ι', its.2[i], _, ρ2, ry, (r1.mono st2).wipe _, ea, fun σ2 rr2 so => ⟨wipe_same so hsub, ι', ρ2, M', my, rr2, ?_⟩⟩
        have away : ∀ {ι0 ι3 : List Addr} {H0 H3 : Hp}, Step K ι0 H0 ι3 H3 → Dl ∉ ι0 → H0 Dl = some (.dK vs) → Dl ∉ ι3 ∧ H3 Dl = some (.dK vs) := by
          intro ι0 ι3 H0 H3 st3 h1 h2
          refine ⟨?_, st3.fr Dl _ h2 h1⟩
          obtain ⟨tl, e3, hf⟩ := st3.pre
          rw [e3]
          intro z
          rcases List.mem_append.mp z with z | z
          · exact h1 z
          · rw [hf _ z] at h2; cases h2
        cases et : ft ρ2 M' with
        | err c as M2 => rw [et] at ec; cases ec
        | bad => rw [et] at ec; cases ec
        | ok b M2 =>
          rw [et] at ec
          simp only [R.bind] at ec
          rintro ι3 H3 b' st3 m3 rb
          have rb : b = b' := rb
          subst rb
          obtain ⟨hDn3, hDv3⟩ := away st3 hDn hDv2
          cases b with
          | false =>
            simp only [Bool.false_eq_true, if_false] at ec ⊢
            exact ⟨ι3, M2, acc, kvs, vs, st2.trans st3, m3, hDn3, hDv3, hpa, (ra.mono sy).mono st3, ec⟩
          | true =>
            simp only [if_true] at ec ⊢
            refine ⟨ι3, ρ2, M2, m3, rr2.mono st3, ?_⟩
            have ep : pairV fk fv ρ2 M2 = (fk ρ2 M2).bind fun x M => (fv ρ2 M).bind fun y M => match toKey x with
              | some _ => R.ok (.tup [x, y]) M
              | none => .bad := rfl
            rw [ep] at ec
            cases ek : fk ρ2 M2 with
            | err c as M2 => rw [ek] at ec; cases ec
            | bad => rw [ek] at ec; cases ec
            | ok kx M4 =>
              rw [ek] at ec
              simp only [R.bind] at ec
              rintro ι4 H4 kv st4 m4 rk4
              obtain ⟨hDn4, hDv4⟩ := away st4 hDn3 hDv3
              refine ⟨ι4, ρ2, M4, m4, (rr2.mono st3).mono st4, ?_⟩
              cases ev : fv ρ2 M4 with
              | err c as M2 => rw [ev] at ec; cases ec
              | bad => rw [ev] at ec; cases ec
              | ok vx M5 =>
                rw [ev] at ec
                simp only at ec
                rintro ι5 H5 yv st5 m5 rv5
                obtain ⟨hDn5, hDv5⟩ := away st5 hDn4 hDv4
                cases et : toKey kx with
                | none => rw [et] at ec; cases ec
                | some k =>
                  rw [et] at ec
                  simp only at ec
                  split at ec
                  · rename_i hz
                    have ra5 : RepKs K ι5 H5 (mergeD [] kvs) vs := (((ra.mono sy).mono st3).mono st4).mono st5
                    have hl : vs.length ≤ acc.length := by
                      rw [← ra5.length, ← pairsD_len hpa]
                      have := mergeD_len (acc := []) (more := kvs)
                      simpa using this
                    refine ⟨vs, k, toKey_of rk4 et, hDv5, Nat.lt_of_le_of_lt hl (szl hz), ι5, M5, acc ++ [.tup [kx, vx]], kvs ++ [(k, vx)], putK vs k yv, ?_, m5.upd hDv5 plain_dK hDn5, hDn5, upd_same, pairsD_snoc hpa et, ?_, ec⟩
                    · exact (((st2.trans st3).trans st4).trans st5).updO hDv5 plain_dK hD
                    · rw [mergeD_snoc]
                      exact RepKs.upd hDv5 plain_dK _ _ (putK_of rv5 ra5)
                  · cases ec
    · cases ec
  · rintro H' ⟨ι', M', acc, kvs, vs, st, m', hDn, hDv, hpa, ra, ec⟩
    rw [List.drop_of_length_le (by omega)] at ec
    simp only [compL] at ec
    split at ec
    · cases ec
      rw [hpa] at p2
      refine p2 (ι' ++ [Dl]) H' _ ?_ (m'.take (c0 := .dic (mergeD [] kvs)) hDn ⟨vs, hDv, RepKs.ext _ _ ra⟩) (.cell ?_)
      · obtain ⟨tl, e3, hf⟩ := st.pre
        refine ⟨⟨tl ++ [Dl], by rw [e3, List.append_assoc], fun x hx => ?_⟩, st.fr, st.dom, st.tups, st.frzs, st.lock⟩
        rcases List.mem_append.mp hx with z | z
        · exact hf x z
        · simp at z; subst z; exact hD
      · rw [← m'.len]; simp
    · cases ec
theorem e_dcomp {kx vx tg iter : Expr} {ifs : List Expr} {scope : Scope} {own : List (Str × Nat)} {pos : Pos} {t : Tg} {fI : Rho → Mem → R Its} {ft : Rho → Mem → R Bool} {fk fv : Rho → Mem → R D} (hc : X.calm = true) (hN : X.N.Nodup) (hi : PIx X ex W tg iter fI) (ok : BlkOk X.N X.env.scope scope own)
    (hg : ∀ (s : Shared) (H : Hp) (C : Addr) (cl : List (Str × Addr)) (fp : List Addr), PG (X.blk s H scope (compEnvC scope cl C X.env) fp) tg (gT X.K t)) (ht : ∀ (s : Shared) (H : Hp) (C : Addr) (cl : List (Str × Addr)) (fp : List Addr), PTs (X.blk s H scope (compEnvC scope cl C X.env) fp) ifs (tT X.K ex W0 ft))
    (hk : ∀ (s : Shared) (H : Hp) (C : Addr) (cl : List (Str × Addr)) (fp : List Addr), PEx (X.blk s H scope (compEnvC scope cl C X.env) fp) ex W0 kx fk)
    (hv : ∀ (s : Shared) (H : Hp) (C : Addr) (cl : List (Str × Addr)) (fp : List Addr), PEx (X.blk s H scope (compEnvC scope cl C X.env) fp) ex W0 vx fv) (hsub : ∀ i ∈ slotsT t, i ∈ own.map (·.2)) (hs : ∀ x, foldedSetIterable iter X.env x = pure x) :
    PEx X ex W (.DictComp kx vx [⟨tg, iter, ifs, 0⟩] scope pos) (semDComp (own.map (·.2)) t fI ft fk fv) :=
  (pe_dc (tk := tE X.K ex W0 fk) (tv := tE X.K ex W0 fv) hc hN hi ok hg ht hk hv hs).imp fun _ _ _ p => rd_dcomp hsub p
end
end J

namespace J
open PySem PySem.Spec
open PyProof.Rows L2
/-! ## tables of the top -/
/-- at a: a dict of the top, with the pairs kvs -/
structure KTab (K : PySem.W.Frag) (w : World) (a : Addr) (kvs : List (Key × D)) : Prop where
  kd : ∃ es n, KDict K w a es n
  at_ : ∀ z : Str, (lookK (.inr z) kvs = none ∧ PySem.W.nsIn K a z = some none) ∨ ∃ d u v, lookK (.inr z) kvs = some d ∧ PySem.W.nsIn K a z = some (some u) ∧ RelV v u ∧ ∀ ι H, Rep K ι H d v
section
variable {X : Cx} {ex : Exs} {W : WX} {con : Nat → Option D} {a : Addr} {x : Str} {g : Nat} {ds : List D} {kvs : List (Key × D)} {p1 ap pos : Pos} {fk fd : Rho → Mem → R D} {b c : Expr}
theorem marks_name {op : CmpOp} {y : Str} {q : Pos} : behindInMarks op (.Name y q) = false := rfl
theorem gdO_at {α : Type} {f : List (Key × D) → Option α} (hc : con g = some (.tup ds)) (hp : pairsD ds = some kvs) : gdO con g f = f kvs := by
  unfold gdO
  rw [hc]
  show (pairsD ds).bind f = _
  rw [hp]
  rfl
/-- k in a table -/
def semGin (con : Nat → Option D) (g : Nat) (neg : Bool) (fk : Rho → Mem → R D) : Rho → Mem → R D := fun ρ M => (fk ρ M).bind fun y M => valO M (gdO con g fun kvs => (strK y).map fun s => .bl ((lookK (.inr s) kvs).isSome != neg))
theorem bool_gin {neg : Bool} (hc : con g = some (.tup ds)) (hp : pairsD ds = some kvs) : BoolF (semGin con g neg fk) := by
  intro ρ M d M' h
  unfold semGin at h
  cases ha : fk ρ M with
  | ok x M1 =>
    rw [ha] at h
    simp only [R.bind] at h
    rw [gdO_at hc hp] at h
    cases e : strK x with
    | none => rw [e] at h; cases h
    | some z => rw [e] at h; cases h; exact ⟨_, rfl⟩
  | err c as M1 => rw [ha] at h; cases h
  | bad => rw [ha] at h; cases h
theorem rd_gin (T : KTab X.K X.w a kvs) (hc : con g = some (.tup ds)) (hp : pairsD ds = some kvs) {neg : Bool} {σ : L2.St} {H : Hp} {Q : VK} (p : tE X.K ex W (semGin con g neg fk) σ H Q) :
    tE X.K ex W fk σ H fun v H1 => ∃ (z : Str) (r : Option Value), v = .str z ∧ PySem.W.nsIn X.K a z = some r ∧ Q (.bl (r.isSome != neg)) H1 := by
  obtain ⟨ι, ρ, M, m, r, p⟩ := p
  refine ⟨ι, ρ, M, m, r, p.seq.imp ?_⟩
  rintro v H1 ⟨y, ι1, M1, st, m1, ry, e, p1⟩
  rw [gdO_at hc hp] at p1
  cases y <;> first | (exact p1.elim) | skip
  rename_i z
  rw [rep_str ry]
  rcases T.at_ z with ⟨h1, h2⟩ | ⟨d, u, v', h1, h2, _, _⟩
  · simp only [strK, Option.map_some, h1] at p1
    exact ⟨z, none, rfl, h2, p1.now m1 .bl⟩
  · simp only [strK, Option.map_some, h1] at p1
    exact ⟨z, some u, rfl, h2, p1.now m1 .bl⟩
def ginO (neg : Bool) : CmpOp := if neg then .NotIn else .In
theorem op_gin {es : Array DictEntry} {n : Nat} (kd : KDict X.K X.w a es n) (neg : Bool) : OpR X (compareOp (ginO neg)) (fun x y H Q => ∃ (z : Str) (r : Option Value), x = .str z ∧ y = .ref a ∧ PySem.W.nsIn X.K a z = some r ∧ Q (.bl (r.isSome != neg)) H) := by
  intro pins s σ H x y v u Q I rx ry h
  obtain ⟨z, r, h1, h2, h3, q⟩ := h
  cases neg with
  | false => exact op_in_kd kd pins s σ H x y v u Q I rx ry ⟨z, r, h1, h2, h3, by simpa using q⟩
  | true => exact op_notIn_kd kd pins s σ H x y v u Q I rx ry ⟨z, r, h1, h2, h3, by simpa using q⟩
theorem e_gin (hg : Gl X x) (hm : X.mg x = some (.ref a)) (hdb : (x == ("__debug__" : Str)) = false) (T : KTab X.K X.w a kvs) (hc : con g = some (.tup ds)) (hp : pairsD ds = some kvs) (hk : PEx X ex W b fk) (neg : Bool) :
    PEx X ex W (.Compare b [ginO neg] [.Name x p1] pos) (semGin con g neg fk) := by
  have px : PE X (.Name x p1) (tC (.ref a)) := pe_glob hg hm rfl hdb
  obtain ⟨es, n, kd⟩ := T.kd
  refine (pe_cmpR (op_gin kd neg) hk px (marks_name)).imp ?_
  rintro σ H Q p
  obtain ⟨ι0, ρ0, M0, m0, r0, p0⟩ := rd_gin T hc hp p
  refine ⟨ι0, ρ0, M0, m0, r0, p0.imp ?_⟩
  rintro v H1 ⟨z, r, rfl, h2, q⟩
  exact ⟨z, r, rfl, rfl, h2, q⟩
theorem t_gin (hg : Gl X x) (hm : X.mg x = some (.ref a)) (hdb : (x == ("__debug__" : Str)) = false) (T : KTab X.K X.w a kvs) (hc : con g = some (.tup ds)) (hp : pairsD ds = some kvs) (hk : PEx X ex W b fk) (neg : Bool) :
    PTx X ex W (.Compare b [ginO neg] [.Name x p1] pos) fun ρ M => (semGin con g neg fk ρ M).bind fun x M => valO M (truD M x) := by
  have px : PE X (.Name x p1) (tC (.ref a)) := pe_glob hg hm rfl hdb
  obtain ⟨es, n, kd⟩ := T.kd
  refine (pt_cmpR (op_gin kd neg) hk px (marks_name)).imp ?_
  rintro σ H Q p
  obtain ⟨ι0, ρ0, M0, m0, r0, p0⟩ := rd_gin T hc hp (tt_of (bool_gin hc hp) p)
  refine ⟨ι0, ρ0, M0, m0, r0, p0.imp ?_⟩
  rintro v H1 ⟨z, r, rfl, h2, q⟩
  exact ⟨z, r, rfl, rfl, h2, q⟩
/-- a table at k -/
theorem e_gix2 (hg : Gl X x) (hm : X.mg x = some (.ref a)) (hdb : (x == ("__debug__" : Str)) = false) (T : KTab X.K X.w a kvs) (hc : con g = some (.tup ds)) (hp : pairsD ds = some kvs) (hk : PEx X ex W b fk) (hs : PlainIx b) :
    PEx X ex W (.Subscript (.Name x p1) b pos) fun ρ M => (fk ρ M).bind fun y M => valO M (gdO con g fun kvs => (strK y).bind fun s => lookK (.inr s) kvs) := by
  have px : PE X (.Name x p1) (tC (.ref a)) := pe_glob hg hm rfl hdb
  obtain ⟨⟨es, n, kd⟩, hat⟩ := T
  refine (pe_ix ix_kdict px hk hs).imp ?_
  rintro σ H Q ⟨ι, ρ, M, m, r, p⟩
  refine ⟨ι, ρ, M, m, r, p.seq.imp ?_⟩
  rintro v H1 ⟨y, ι1, M1, st, m1, ry, e, p1⟩
  rw [gdO_at hc hp] at p1
  cases y <;> first | (exact p1.elim) | skip
  rename_i z
  rw [rep_str ry]
  rcases hat z with ⟨h1, h2⟩ | ⟨d, u, v', h1, h2, h3, h4⟩
  · simp only [strK, Option.bind_some, h1] at p1
    exact p1.elim
  · simp only [strK, Option.bind_some, h1] at p1
    exact ⟨a, z, v', rfl, rfl, ⟨es, n, u, kd.at_, kd.lit, h2, h3⟩, p1.now m1 (h4 _ _)⟩
/-- a table's get -/
theorem e_gget (hg : Gl X x) (hm : X.mg x = some (.ref a)) (hdb : (x == ("__debug__" : Str)) = false) (T : KTab X.K X.w a kvs) (hc : con g = some (.tup ds)) (hp : pairsD ds = some kvs) (hk : PEx X ex W b fk) (hd : PEx X ex W c fd) (md : M2 X (.Name x p1) "get" ap b c pos) :
    PEx X ex W (.Call (.Attribute (.Name x p1) "get" ap) [b, c] [] pos) fun ρ M => (fk ρ M).bind fun y M => (fd ρ M).bind fun w M => valO M (gdO con g fun kvs => (strK y).map fun s => (lookK (.inr s) kvs).getD w) := by
  have px : PE X (.Name x p1) (tC (.ref a)) := pe_glob hg hm rfl hdb
  obtain ⟨⟨es, n, kd⟩, hat⟩ := T
  refine ⟨fun pins s σ H Q I h => ?_⟩
  obtain ⟨ι, ρ, M, m, r, p⟩ := h
  refine wpAny_Call_method md.base md.few md.line PySem.F.plainAttrs_dict PySem.F.slot_dict_get PySem.F.type_dict_get (thn (px.run pins s σ H (fun v H1 => v = .ref a ∧ H1 = H) I ⟨rfl, rfl⟩) fun u s1 ⟨v, H1, I1, rv, ev, eH⟩ => ?_)
  subst ev eH
  obtain rfl : u = Value.ref a := rv
  have mo := PySem.W.mapOf_K (prog := X.prog) (w := X.w) I1.kIn kd.at_ kd.lit
  refine ⟨mo.typeIs, mo.noDict, ?_⟩
  rw [md.trees]
  refine Calls.callWith_builtin rfl (Calls.evalArgs_plain (Calls.spliced_cons (thn (hk.run pins s1 σ H1 _ I1 ⟨ι, ρ, M, m, r, p.seq⟩) fun iv s2 ⟨y, H2, I2, ry, dy, ι2, M2, st2, m2, rdy, _, p2⟩ =>
    Calls.spliced_cons (thn (hd.run pins s2 σ H2 _ I2 ⟨ι2, ρ, M2, m2, r.mono st2, p2.seq⟩) fun fv s3 hq3 => Calls.spliced_nil ?_))))
  obtain ⟨z, H3, I3, rz, dz, ι3, M3, st3, m3, rdz, _, p3⟩ := hq3
  rw [gdO_at hc hp] at p3
  have hz : ∃ zs, dy = .str zs := by
    cases dy <;> first | (exact p3.elim) | exact ⟨_, rfl⟩
  obtain ⟨str, rfl⟩ := hz
  rw [rep_str rdy] at ry
  obtain ⟨t, rfl⟩ := ry
  have mo3 := PySem.W.mapOf_K (prog := X.prog) (w := X.w) I3.kIn kd.at_ kd.lit
  refine call_meetsIn PySem.F.slot_dict_get mo3.typeIs PySem.F.entry_dict_get (PySem.F.args_dict_get_3 _ _ _) (meets_dict_get_default (strKind X.prog X.w) a (strKind_is X.prog X.w str t) kd.low fv) ⟨_, mo3, ?_⟩
  rcases hat str with ⟨h1, h2⟩ | ⟨d, u, v', h1, h2, h3, h4⟩
  · rw [PySem.W.find_K kd.at_ h2]
    simp only [strK, Option.map_some, h1] at p3
    exact ⟨z, H3, I3.tok _, rz, p3.now m3 rdz⟩
  · rw [PySem.W.find_K kd.at_ h2]
    simp only [strK, Option.map_some, h1] at p3
    exact ⟨v', H3, I3.tok _, h3, p3.now m3 (h4 _ _)⟩
end
end J

namespace J
open PySem PySem.Spec
open PyProof.Rows L2
/-! ## the check that a term is an expression's -/
/-- what a module's name stands for -/
inductive GB where
  | fn (f : Nat) | con (g : Nat) | dic (g : Nat) | free | other
def all2 {α β : Type} (p : α → β → Bool) : List α → List β → Bool
  | [], [] => true
  | a :: r, b :: t => p a b && all2 p r t
  | _, _ => false
def notStar : Expr → Bool
  | .Starred _ _ => false
  | _ => true
def notSet : Expr → Bool
  | .Set _ _ _ => false
  | _ => true
def notSl : Expr → Bool
  | .Slice _ _ _ _ => false
  | _ => true
def notCall : Expr → Bool
  | .Call _ _ _ _ => false
  | _ => true
def ckA (p : E → Expr → Bool) : E → Expr → Bool := fun ir e => match e with
  | .Starred x _ => (match ir with | .star a => p a x | _ => false)
  | x => (match ir with | .star _ => false | a => p a x)
def visB (sc : Scope) (x : Str) : Bool := match sc.names.lookup x with
  | some .local => true
  | some .cell => true
  | some .free => true
  | _ => false
def gloB (sc : Scope) (x : Str) : Bool := match sc.names.lookup x with
  | some .globalImplicit => true
  | _ => false
def locB (sc : Scope) (fnb : Str → Bool) (x : Str) : Bool := match sc.names.lookup x with
  | some .local => true
  | some .cell => fnb x
  | _ => false
def nmB (x : Str) : Bool := !(x == ("__debug__" : Str)) && !(x == ("__classdict__" : Str)) && !(decide (x = ("__name__" : Str)))
def opB : Operator → Bop → Bool
  | .Add, .add => true | .Sub, .sub => true | .Mult, .mul => true | .FloorDiv, .fdiv => true | .Mod, .mod => true
  | _, _ => false
def cmB : CmpOp → Cop → Bool
  | .Eq, .eq => true | .NotEq, .ne => true | .Lt, .lt => true | .LtE, .le => true | .Gt, .gt => true | .GtE, .ge => true | .Is, .isn => true | .IsNot, .isnn => true | .Is, .isb => true | .IsNot, .isnb => true | .In, .inn => true | .NotIn, .nin => true
  | _, _ => false
theorem opB_eq {o : Operator} {b : Bop} (h : opB o b = true) : o = bopE b := by cases o <;> cases b <;> first | rfl | cases h
theorem cmB_eq {o : CmpOp} {b : Cop} (h : cmB o b = true) : o = copE b := by cases o <;> cases b <;> first | rfl | cases h
def conB : D → Const → Bool
  | .non, .none => true
  | .bl a, .bool b => a == b
  | .int a, .int b => a == b
  | .str a, .str b => decide (a = b)
  | _, _ => false
def bltN : Blt → Str
  | .len => "len" | .int => "int" | .tuple => "tuple" | .list => "list" | .dict => "dict" | .isi _ => "isinstance"
def isFree (gb : Str → GB) (x : Str) : Bool := match gb x with
  | .free => true
  | _ => false
def isFn (gb : Str → GB) (x : Str) (f : Nat) : Bool := match gb x with
  | .fn g => g == f
  | _ => false
def isCon (gb : Str → GB) (x : Str) (f : Nat) : Bool := match gb x with
  | .con g => g == f
  | _ => false
def isDct (gb : Str → GB) (x : Str) (f : Nat) : Bool := match gb x with
  | .dic g => g == f
  | _ => false
def isTupE : Expr → Bool
  | .Tuple _ _ _ => true
  | _ => false
def tyS : Ty → Str
  | .int => "int" | .bool => "bool" | .str => "str" | .tuple => "tuple" | .list => "list" | .dict => "dict"
def ckD (p : E → Expr → Bool) : List E → List (Option Expr) → List Expr → Bool
  | [], [], [] => true
  | k :: v :: es, some a :: ks, b :: vs => p k a && p v b && ckD p es ks vs
  | _, _, _ => false
section
variable (N : List Str) (gb : Str → GB)
def ckT (sc : Scope) (fnb : Str → Bool) : Nat → Tg → Expr → Bool
  | 0, _, _ => false
  | n + 1, t, e => match t with
    | .nm i => (match e with
      | .Name x _ => decide (N[i]? = some x) && locB sc fnb x
      | _ => false)
    | .tp ts => (match e with
      | .Tuple es _ _ => es.all notStar && all2 (ckT sc fnb n) ts es
      | _ => false)
def gfree (sc : Scope) (x : Str) : Bool := gloB sc x && isFree gb x && nmB x
mutual
def ckE : Nat → Scope → (Str → Bool) → E → Expr → Bool
  | 0, _, _, _, _ => false
  | n + 1, sc, fnb, ir, e => match ir with
    | .var i => (match e with
      | .Name x _ => decide (N[i]? = some x) && visB sc x && nmB x
      | _ => false)
    | .con d => (match e with
      | .Constant c _ _ => conB d c
      | _ => false)
    | .glo g => (match e with
      | .Name x _ => gloB sc x && isCon gb x g && nmB x
      | _ => false)
    | .gix g a => (match e with
      | .Call (.Attribute (.Name x _) m ap) [b] [] p => decide (m = ("index" : Str)) && gloB sc x && isCon gb x g && nmB x && (ap.endLine == p.line) && notStar b && ckE n sc fnb a b
      | _ => false)
    | .tup es => (match e with
      | .Tuple xs _ _ => all2 (ckA (ckE n sc fnb)) es xs
      | _ => false)
    | .lst es => (match e with
      | .List xs _ => all2 (ckA (ckE n sc fnb)) es xs
      | _ => false)
    | .dis es => (match e with
      | .Dict ks vs _ => decide (ks.length ≤ 15) && ckD (ckE n sc fnb) es ks vs
      | _ => false)
    | .bin o a b => (match e with
      | .BinOp x op y _ => opB op o && ckE n sc fnb a x && ckE n sc fnb b y
      | _ => false)
    | .neg a => (match e with
      | .UnaryOp .USub x _ => ckE n sc fnb a x
      | _ => false)
    | .cmp o a b => (match e with
      | .Compare x [op] [y] _ => cmB op o && notSet y && ckE n sc fnb a x && ckE n sc fnb b y
      | _ => false)
    | .cmp2 o o' a b c => (match e with
      | .Compare x [op, op'] [y, z] _ => cmB op o && cmB op' o' && notSet z && ckE n sc fnb a x && ckE n sc fnb b y && ckE n sc fnb c z
      | _ => false)
    | .nott a => (match e with
      | .UnaryOp .Not x _ => ckE n sc fnb a x
      | _ => false)
    | .andd a b => (match e with
      | .BoolOp .And [x, y] _ => ckE n sc fnb a x && ckE n sc fnb b y
      | .BoolOp .And (x :: y :: z :: r) p => ckE n sc fnb a x && ckE n sc fnb b (.BoolOp .And (y :: z :: r) p)
      | _ => false)
    | .orr a b => (match e with
      | .BoolOp .Or [x, y] _ => ckE n sc fnb a x && ckE n sc fnb b y
      | .BoolOp .Or (x :: y :: z :: r) p => ckE n sc fnb a x && ckE n sc fnb b (.BoolOp .Or (y :: z :: r) p)
      | _ => false)
    | .ite c a b => (match e with
      | .IfExp x y z _ => ckE n sc fnb c x && ckE n sc fnb a y && ckE n sc fnb b z
      | _ => false)
    | .call f es => (match e with
      | .Call (.Name x _) xs [] _ => gloB sc x && isFn gb x f && nmB x && xs.all notStar && all2 (ckA (ckE n sc fnb)) es xs
      | _ => false)
    | .blt b es => (match e with
      | .Call (.Name x _) (y :: ys) [] _ => decide (x = bltN b) && gfree gb sc x && (y :: ys).all notStar && (match b with
        | .isi t => (match es, ys with
          | [a], [.Name T _] => ckE n sc fnb a y && decide (T = tyS t) && gfree gb sc T
          | _, _ => false)
        | _ => all2 (ckA (ckE n sc fnb)) es (y :: ys))
      | _ => false)
    | .mth m o es => (match e with
      | .Call (.Attribute x nm ap) ys [] p => decide (nm = mthN m) && (ap.endLine == p.line) && notCall x && ys.all notStar && decide (ys.length < 20) && ckE n sc fnb o x && all2 (ckA (ckE n sc fnb)) es ys
      | _ => false)
    | .ix a i => (match e with
      | .Subscript x y _ => notSl y && ckE n sc fnb a x && ckE n sc fnb i y
      | _ => false)
    | .sl a lo hi => (match e with
      | .Subscript x (.Slice l h none _) _ => ckE n sc fnb a x && ckP n sc fnb lo l && ckP n sc fnb hi h
      | _ => false)
    | .comp own t it cs el => (match e with
      | .ListComp elt [⟨tg, iter, ifs, 0⟩] scope _ => blkC N sc scope (own.map fun i => (N.getD i Str.empty, i)) && ckT N (relS scope sc) (fun x => scope.names.lookup x == some .cell) n t tg && (slotsT t).all (fun i => decide (i ∈ own)) && notSet iter && ckI n sc fnb it tg iter &&
          decide (ifs.length ≤ 1) && all2 (ckE n (relS scope sc) (fun x => scope.names.lookup x == some .cell)) cs ifs && ckE n (relS scope sc) (fun x => scope.names.lookup x == some .cell) el elt
      | _ => false)
    | .dcomp own t it cs k v => (match e with
      | .DictComp kx vx [⟨tg, iter, ifs, 0⟩] scope _ => blkC N sc scope (own.map fun i => (N.getD i Str.empty, i)) && ckT N (relS scope sc) (fun x => scope.names.lookup x == some .cell) n t tg && (slotsT t).all (fun i => decide (i ∈ own)) && notSet iter && ckI n sc fnb it tg iter &&
          decide (ifs.length ≤ 1) && all2 (ckE n (relS scope sc) (fun x => scope.names.lookup x == some .cell)) cs ifs && ckE n (relS scope sc) (fun x => scope.names.lookup x == some .cell) k kx && ckE n (relS scope sc) (fun x => scope.names.lookup x == some .cell) v vx
      | _ => false)
    | .gget g k d => (match e with
      | .Call (.Attribute (.Name x _) m ap) [b, c] [] p => decide (m = ("get" : Str)) && gloB sc x && isDct gb x g && nmB x && (ap.endLine == p.line) && notStar b && notStar c && ckE n sc fnb k b && ckE n sc fnb d c
      | _ => false)
    | .gin neg g k => (match e with
      | .Compare b [op] [.Name x _] _ => decide (op = ginO neg) && gloB sc x && isDct gb x g && nmB x && ckE n sc fnb k b
      | _ => false)
    | .gix2 g k => (match e with
      | .Subscript (.Name x _) b _ => gloB sc x && isDct gb x g && nmB x && notSl b && ckE n sc fnb k b
      | _ => false)
    | .unk => true
    | _ => false
def ckP : Nat → Scope → (Str → Bool) → E → Option Expr → Bool
  | 0, _, _, _, _ => false
  | n + 1, sc, fnb, ir, e => match ir with
    | .nop => e.isNone
    | a => (match e with
      | some x => ckE n sc fnb a x
      | none => false)
def ckI : Nat → Scope → (Str → Bool) → E → Expr → Expr → Bool
  | 0, _, _, _, _, _ => false
  | n + 1, sc, fnb, ir, tg, e => match ir with
    | .rng es => (match e with
      | .Call (.Name x _) ys [] _ => decide (x = ("range" : Str)) && gfree gb sc x && ys.all notStar && (ys.length == 1 || ys.length == 2) && all2 (ckE n sc fnb) es ys
      | _ => false)
    | .enu a => (match e with
      | .Call (.Name x _) [y] [] _ => decide (x = ("enumerate" : Str)) && gfree gb sc x && isTupE tg && notStar y && ckE n sc fnb a y
      | _ => false)
    | .zip a b => (match e with
      | .Call (.Name x _) [y, z] [] _ => decide (x = ("zip" : Str)) && gfree gb sc x && isTupE tg && notStar y && notStar z && ckE n sc fnb a y && ckE n sc fnb b z
      | _ => false)
    | a => ckE n sc fnb a e
end
end
end J

namespace J
open PySem PySem.Spec
open PyProof.Rows L2
theorem star_each {e : Expr} (h : notStar e = true) {es : List Expr} {env : PySem.Env} : starEach (e :: es) env = (false, eval e env) :: starEach es env := by
  cases e <;> first | rfl | cases h
theorem star_none : ∀ {es : List Expr} {env : PySem.Env} {pos : Pos}, es.all notStar = true → (backTo pos (starEach es env)).any (·.1) = false
  | [], _, _, _ => rfl
  | e :: es, env, pos, h => by
    simp only [List.all_cons, Bool.and_eq_true] at h
    rw [star_each h.1]
    have ih := star_none (env := env) (pos := pos) h.2
    unfold backTo at ih ⊢
    simpa using ih
theorem star_all : ∀ {es : List Expr} {env : PySem.Env} {pos : Pos}, es.all notStar = true → (backTo pos (starEach es env)).all (fun x => !x.1) = true
  | [], _, _, _ => rfl
  | e :: es, env, pos, h => by
    simp only [List.all_cons, Bool.and_eq_true] at h
    rw [star_each h.1]
    have ih := star_all (env := env) (pos := pos) h.2
    unfold backTo at ih ⊢
    simpa using ih
theorem assign_each {e : Expr} (h : notStar e = true) {es : List Expr} {env : PySem.Env} : assignEach (e :: es) env = (false, assign e env) :: assignEach es env := by
  cases e <;> first | rfl | cases h
theorem assign_len : ∀ {es : List Expr} {env : PySem.Env}, es.all notStar = true → (assignEach es env).length = es.length ∧ (assignEach es env).findIdx? (·.1) = none
  | [], _, _ => ⟨rfl, rfl⟩
  | e :: es, env, h => by
    simp only [List.all_cons, Bool.and_eq_true] at h
    have ih := assign_len (env := env) h.2
    rw [assign_each h.1]
    exact ⟨by simp [ih.1], by rw [List.findIdx?_cons]; simp [ih.2]⟩
theorem base_of {e : Expr} (h : notCall e = true) {nm : Str} {env : PySem.Env} : attributeBase e nm env (eval e env) = eval e env := by
  cases e <;> first | rfl | cases h
theorem set_of {e : Expr} (h : notSet e = true) {env : PySem.Env} : ∀ x, foldedSetIterable e env x = pure x := by
  cases e <;> first | (intro _; rfl) | cases h
theorem marks_of {e : Expr} (h : notSet e = true) {op : CmpOp} : behindInMarks op e = false := by
  cases e <;> first | rfl | cases h
theorem sl_of {e : Expr} (h : notSl e = true) : PlainIx e := by
  cases e <;> first | (intro _ _; rfl) | cases h
theorem vis_of {sc : Scope} {x : Str} (h : visB sc x = true) : Vis sc x := by
  unfold visB at h
  split at h
  · exact .inl (by assumption)
  · exact .inr (.inl (by assumption))
  · exact .inr (.inr (by assumption))
  · cases h
theorem glo_of {sc : Scope} {x : Str} (h : gloB sc x = true) : sc.names.lookup x = some .globalImplicit := by
  unfold gloB at h
  split at h
  · assumption
  · cases h
theorem loc_of {sc : Scope} {fnb : Str → Bool} {x : Str} (h : locB sc fnb x = true) : Loc sc x ∧ (fnb x = true ∨ sc.names.lookup x = some .local) := by
  unfold locB at h
  split at h
  · rename_i e; exact ⟨.inl e, .inr e⟩
  · rename_i e; exact ⟨.inr e, .inl h⟩
  · cases h
theorem nm_of {x : Str} (h : nmB x = true) : (x == ("__debug__" : Str)) = false ∧ (x == ("__classdict__" : Str)) = false ∧ x ≠ "__name__" := by
  unfold nmB at h
  simp only [Bool.and_eq_true, Bool.not_eq_true', decide_eq_false_iff_not] at h
  exact ⟨h.1.1, h.1.2, h.2⟩
/-- what is known of a body's context -/
structure Gd (X : Cx) (W : WX) (ex : Exs) (call : Nat → List D → Mem → R D) (con : Nat → Option D) (gb : Str → GB) (k : Nat) : Prop where
  calm : X.calm = true
  nd : X.N.Nodup
  room : Room k X.A
  fn : ∀ x f, gb x = .fn f → ∃ a fd ps, X.mg x = some (.ref a) ∧ PySem.W.keepIn X.K (.ref a) = true ∧ Binds X.K fd ps [] ∧ FnOk X.prog X.w X.K X.mg X.base (L2.CX X.prog X.w) k a fd ps (spF X.K ex call f)
  dic : ∀ x g, gb x = .dic g → ∃ a ds kvs, X.mg x = some (.ref a) ∧ con g = some (.tup ds) ∧ pairsD ds = some kvs ∧ KTab X.K X.w a kvs
  con : ∀ x g, gb x = .con g → ∃ u v d, X.mg x = some u ∧ RelV v u ∧ con g = some d ∧ (∀ ι H, Rep X.K ι H d v) ∧ ∀ a, v = .ref a → (∃ ds, d = .tup ds) → ∃ o, X.K.lookup a = some o ∧ o.cls = .type "tuple" ∧ o.dict = none
  free : ∀ x, gb x = .free → X.mg x = none
  tk : ∀ σ, PassesAt (L2.CX X.prog X.w) X σ (WE W σ)
section
variable {X : Cx} {W : WX} {ex : Exs} {call : Nat → List D → Mem → R D} {con : Nat → Option D} {gb : Str → GB} {k : Nat}
theorem Gd.hu (g : Gd X W ex call con gb k) : X.A.units + 1 < cLine := hu_of g.room
theorem Gd.hu64 (g : Gd X W ex call con gb k) : X.A.units + 64 < cLine := g.room.units
theorem Gd.blk (g : Gd X W ex call con gb k) (s : Shared) (H : Hp) (scope : Scope) (env : PySem.Env) (fp : List Addr) : Gd (X.blk s H scope env fp) W0 ex call con gb k :=
  ⟨g.calm, g.nd, g.room, g.fn, g.dic, g.con, g.free, fun σ pins H s e s' I c => by
    obtain ⟨_, _, _, _, _, _, _, _, _, _, _, _, z⟩ := c
    exact z⟩
theorem free_of {sc : Scope} {x : Str} (g : Gd X W ex call con gb k) (hs : X.env.scope = sc) (h : gfree gb sc x = true) : Gl X x ∧ X.mg x = none ∧ (x == ("__debug__" : Str)) = false ∧ x ≠ "__name__" := by
  unfold gfree isFree at h
  simp only [Bool.and_eq_true] at h
  obtain ⟨⟨h1, h2⟩, h3⟩ := h
  have n := nm_of h3
  refine ⟨by show X.env.scope.names.lookup x = _; rw [hs]; exact glo_of h1, g.free x ?_, n.1, n.2.2⟩
  split at h2
  · assumption
  · cases h2
theorem con_rep {d : D} {c : Const} {j : Nat} {pos : Pos} (h : conB d c = true) : ∃ v, PE X (.Constant c j pos) (tC v) ∧ ∀ ι H, Rep X.K ι H d v := by
  cases d <;> cases c <;> first | (cases h; done) | skip
  · exact ⟨_, pe_non, fun _ _ => .non⟩
  · rename_i a b
    have e : a = b := by simpa [conB] using h
    subst e
    exact ⟨_, pe_bl, fun _ _ => .bl⟩
  · rename_i a b
    have e : a = b := by simpa [conB] using h
    subst e
    exact ⟨_, pe_int, fun _ _ => .int⟩
  · rename_i a b
    have e : a = b := by simpa [conB] using h
    subst e
    exact ⟨_, pe_str, fun _ _ => .str⟩
/-- targets -/
theorem ckT_ok {N : List Str} {sc : Scope} {fnb : Str → Bool} (hc : X.calm = true) (nd : X.N.Nodup) (hN : X.N = N) (hs : X.env.scope = sc) (hf : ∀ x, X.fn x = fnb x) : ∀ (n : Nat) (t : Tg) (e : Expr), ckT N sc fnb n t e = true → PG X e (gT X.K t)
  | 0, _, _, h => by simp [ckT] at h
  | n + 1, .nm i, e, h => by
    simp only [ckT] at h
    split at h
    · simp only [Bool.and_eq_true, decide_eq_true_eq] at h
      have z := loc_of h.2
      rw [← hs, ← hf] at z
      exact g_name nd (by rw [hN]; exact h.1) z.1 z.2
    · cases h
  | n + 1, .tp ts, e, h => by
    simp only [ckT] at h
    split at h
    · rename_i es _ _
      simp only [Bool.and_eq_true] at h
      have len : ∀ (ts : List Tg) (es : List Expr), all2 (ckT N sc fnb n) ts es = true → es.all notStar = true → es.length = ts.length ∧ PGs X es (gTs X.K ts) := by
        intro ts
        induction ts with
        | nil =>
          intro es h _
          cases es with
          | nil => exact ⟨rfl, g_nil⟩
          | cons _ _ => cases h
        | cons t ts ih =>
          intro es h h'
          cases es with
          | nil => cases h
          | cons e es =>
            simp only [all2, Bool.and_eq_true, List.all_cons] at h h'
            have z := ih es h.2 h'.2
            exact ⟨by simp [z.1], g_cons (ckT_ok hc nd hN hs hf n t e h.1) z.2 (by rw [assign_each h'.1]; rfl)⟩
      have z := len ts es h.2 h.1
      have w := assign_len (env := X.env) h.1
      exact g_tup hc z.2 z.1 w.1 w.2
    · cases h
end
end J

namespace J
open PySem PySem.Spec
open PyProof.Rows L2
section
variable {X : Cx} {W : WX} {ex : Exs} {call : Nat → List D → Mem → R D} {con : Nat → Option D} {gb : Str → GB} {k : Nat}
theorem sem {e : Expr} {f g : Rho → Mem → R D} (p : PEx X ex W e f) (h : ∀ ρ M, f ρ M = g ρ M) : PEx X ex W e g := by
  have : f = g := funext fun ρ => funext fun M => h ρ M
  rw [← this]; exact p
theorem semT {e : Expr} {f g : Rho → Mem → R Bool} (p : PTx X ex W e f) (h : ∀ ρ M, f ρ M = g ρ M) : PTx X ex W e g := by
  have : f = g := funext fun ρ => funext fun M => h ρ M
  rw [← this]; exact p
theorem semA {e : List Expr} {f g : Rho → Mem → R (List D)} (p : PAx X ex W e f) (h : ∀ ρ M, f ρ M = g ρ M) : PAx X ex W e g := by
  have : f = g := funext fun ρ => funext fun M => h ρ M
  rw [← this]; exact p
theorem semI {tg e : Expr} {f g : Rho → Mem → R Its} (p : PIx X ex W tg e f) (h : ∀ ρ M, f ρ M = g ρ M) : PIx X ex W tg e g := by
  have : f = g := funext fun ρ => funext fun M => h ρ M
  rw [← this]; exact p
def isStarE : E → Bool
  | .star _ => true
  | _ => false
def okV : E → Bool
  | .star _ => false
  | .nop => false
  | .rng _ => false
  | .enu _ => false
  | .zip _ _ => false
  | _ => true
theorem s_plain {e : E} (h : okV e = true) (ρ : Rho) (M : Mem) : (evX call con e).s ρ M = (evE call con e ρ M).bind fun x M => .ok [x] M := by
  cases e <;> first | rfl | cases h
theorem bind_one {r : R D} {f : List D → Mem → R (List D)} : ((r.bind fun x M => R.ok [x] M).bind f) = r.bind fun x M => f [x] M := by cases r <;> rfl
theorem evEs_plain {e : E} (h : okV e = true) {es : List E} {ρ : Rho} {M : Mem} : evEs call con (e :: es) ρ M = (evE call con e ρ M).bind fun x M => (evEs call con es ρ M).bind fun xs M => .ok (x :: xs) M := by
  show ((evX call con e).s ρ M).bind _ = _
  rw [s_plain h, bind_one]
  rfl
theorem R.bind_assoc {α β γ : Type} {r : R α} {f : α → Mem → R β} {g : β → Mem → R γ} : (r.bind f).bind g = r.bind fun a M => (f a M).bind g := by cases r <;> rfl
/-- arguments, some of them starred -/
theorem ckA_ok {p : E → Expr → Bool} (hp : ∀ ir e, p ir e = true → okV ir = true ∧ PEx X ex W e (evE call con ir)) : ∀ (es : List E) (xs : List Expr), all2 (ckA p) es xs = true → PAx X ex W xs (evEs call con es)
  | [], [], _ => semA a_nil fun _ _ => rfl
  | [], _ :: _, h => by cases h
  | _ :: _, [], h => by cases h
  | e :: es, x :: xs, h => by
    simp only [all2, Bool.and_eq_true] at h
    have ih := ckA_ok hp es xs h.2
    have h1 := h.1
    by_cases hx : notStar x = true
    · have z : p e x = true := by
        cases x <;> first | (cases hx; done) | skip
        all_goals (cases e <;> first | (simp [ckA] at h1; done) | simpa [ckA] using h1)
      exact semA (a_cons (hp e x z).2 ih (star_each hx)) fun ρ M => (evEs_plain (hp e x z).1).symm
    · cases x <;> first | (exact absurd rfl hx) | skip
      cases e <;> first | (simp [ckA] at h1; done) | skip
      exact semA (a_star (hp _ _ (by simpa [ckA] using h1)).2 ih) fun ρ M => R.bind_assoc.symm
theorem ckPl_ok {p : E → Expr → Bool} (hp : ∀ ir e, p ir e = true → okV ir = true ∧ PEx X ex W e (evE call con ir)) : ∀ (es : List E) (xs : List Expr), all2 p es xs = true → xs.all notStar = true → PAx X ex W xs (evEs call con es)
  | [], [], _, _ => semA a_nil fun _ _ => rfl
  | [], _ :: _, h, _ => by cases h
  | _ :: _, [], h, _ => by cases h
  | e :: es, x :: xs, h, h' => by
    simp only [all2, List.all_cons, Bool.and_eq_true] at h h'
    exact semA (a_cons (hp e x h.1).2 (ckPl_ok hp es xs h.2 h'.2) (star_each h'.1)) fun ρ M => (evEs_plain (hp e x h.1).1).symm
theorem ck_okV {N : List Str} {n : Nat} {sc : Scope} {fnb : Str → Bool} {ir : E} {e : Expr} (h : ckE N gb n sc fnb ir e = true) : okV ir = true := by
  cases n with
  | zero => simp [ckE] at h
  | succ n => cases ir <;> first | rfl | (simp [ckE] at h)
theorem evEs_len : ∀ {es : List E} {ρ : Rho} {M M' : Mem} {ds : List D}, es.all okV = true → evEs call con es ρ M = .ok ds M' → ds.length = es.length
  | [], ρ, M, M', ds, _, h => by cases h; rfl
  | e :: es, ρ, M, M', ds, hs, h => by
    simp only [List.all_cons, Bool.and_eq_true] at hs
    rw [evEs_plain hs.1] at h
    cases h1 : evE call con e ρ M with
    | err c as M1 => rw [h1] at h; cases h
    | bad => rw [h1] at h; cases h
    | ok x M1 =>
      rw [h1] at h
      simp only [R.bind] at h
      cases h2 : evEs call con es ρ M1 with
      | err c as M1 => rw [h2] at h; cases h
      | bad => rw [h2] at h; cases h
      | ok xs M2 =>
        rw [h2] at h
        cases h
        simp [evEs_len hs.2 h2]
theorem all2_len {α β : Type} {p : α → β → Bool} : ∀ {xs : List α} {ys : List β}, all2 p xs ys = true → xs.length = ys.length
  | [], [], _ => rfl
  | [], _ :: _, h => by cases h
  | _ :: _, [], h => by cases h
  | _ :: _, _ :: _, h => by simp only [all2, Bool.and_eq_true] at h; simp [all2_len h.2]
theorem all2_left {α β : Type} {p : α → β → Bool} {q : α → Bool} (hq : ∀ a b, p a b = true → q a = true) : ∀ {xs : List α} {ys : List β}, all2 p xs ys = true → xs.all q = true
  | [], [], _ => rfl
  | [], _ :: _, h => by cases h
  | _ :: _, [], h => by cases h
  | a :: _, b :: _, h => by simp only [all2, Bool.and_eq_true] at h; simp only [List.all_cons, Bool.and_eq_true]; exact ⟨hq a b h.1, all2_left hq h.2⟩
/-- plain by truth -/
def plainT : E → Bool
  | .andd _ _ => false
  | .orr _ _ => false
  | .nott _ => false
  | .ite _ _ _ => false
  | e => okV e
theorem evT_plain {e : E} (h : plainT e = true) (ρ : Rho) (M : Mem) : evT call con e ρ M = semTru (evE call con e) ρ M := by
  cases e <;> first | rfl | cases h
theorem both {ir : E} {e : Expr} (h : plainT ir = true) (p : PEx X ex W e (evE call con ir)) (he : ∀ whole, isTrue e X.env whole = (do let v ← whole; standAt e.pos; holding [v] (truthy v))) : PEx X ex W e (evE call con ir) ∧ PTx X ex W e (evT call con ir) :=
  ⟨p, semT (t_tru p he) fun ρ M => (evT_plain h ρ M).symm⟩
/-- the fuelled check tells the truth -/
structure OkE (N : List Str) (ex : Exs) (call : Nat → List D → Mem → R D) (con : Nat → Option D) (gb : Str → GB) (k n : Nat) : Prop where
  e : ∀ (X : Cx) (W : WX) (sc : Scope) (fnb : Str → Bool), Gd X W ex call con gb k → X.N = N → X.env.scope = sc → (∀ x, X.fn x = fnb x) → ∀ ir e, ckE N gb n sc fnb ir e = true → PEx X ex W e (evE call con ir) ∧ PTx X ex W e (evT call con ir)
  p : ∀ (X : Cx) (W : WX) (sc : Scope) (fnb : Str → Bool), Gd X W ex call con gb k → X.N = N → X.env.scope = sc → (∀ x, X.fn x = fnb x) → ∀ ir e, ckP N gb n sc fnb ir e = true → PO X e (tO X.K ex W (evP call con ir))
  i : ∀ (X : Cx) (W : WX) (sc : Scope) (fnb : Str → Bool), Gd X W ex call con gb k → X.N = N → X.env.scope = sc → (∀ x, X.fn x = fnb x) → ∀ ir tg e, ckI N gb n sc fnb ir tg e = true → PIx X ex W tg e (evI call con ir)
theorem evP_plain {e : E} (h : okV e = true) (ρ : Rho) (M : Mem) : evP call con e ρ M = (evE call con e ρ M).bind fun x M => valO M (partD x) := by
  cases e <;> first | rfl | cases h
theorem semP {e : Option Expr} {f g : Rho → Mem → R (Option Int)} (p : PO X e (tO X.K ex W f)) (h : ∀ ρ M, f ρ M = g ρ M) : PO X e (tO X.K ex W g) := by
  have : f = g := funext fun ρ => funext fun M => h ρ M
  rw [← this]; exact p
theorem okP {N : List Str} {n : Nat} (ih : OkE N ex call con gb k n) (g : Gd X W ex call con gb k) (hN : X.N = N) {sc : Scope} (hs : X.env.scope = sc) {fnb : Str → Bool} (hf : ∀ x, X.fn x = fnb x) (ir : E) (e : Option Expr) (h : ckP N gb (n + 1) sc fnb ir e = true) : PO X e (tO X.K ex W (evP call con ir)) := by
  simp only [ckP] at h
  split at h
  · cases e with
    | none => exact semP o_none fun _ _ => rfl
    | some _ => cases h
  · rename_i hne
    split at h
    · exact semP (o_some (ih.e X W sc fnb g hN hs hf _ _ h).1) fun ρ M => (evP_plain (ck_okV h) ρ M).symm
    · cases h
theorem evI_plain {e : E} (h : okV e = true) (ρ : Rho) (M : Mem) : evI call con e ρ M = (evE call con e ρ M).bind fun x M => valO M (itD M x) := by
  cases e <;> first | rfl | cases h
theorem okI {N : List Str} {n : Nat} (ih : OkE N ex call con gb k n) (g : Gd X W ex call con gb k) (hN : X.N = N) {sc : Scope} (hs : X.env.scope = sc) {fnb : Str → Bool} (hf : ∀ x, X.fn x = fnb x) (ir : E) (tg e : Expr) (h : ckI N gb (n + 1) sc fnb ir tg e = true) : PIx X ex W tg e (evI call con ir) := by
  simp only [ckI] at h
  split at h
  · rename_i es
    split at h
    · rename_i x _ ys _
      simp only [Bool.and_eq_true, Bool.or_eq_true, decide_eq_true_eq, beq_iff_eq] at h
      obtain ⟨⟨⟨⟨h1, h2⟩, h3⟩, h4⟩, h5⟩ := h
      subst h1
      have f := free_of g hs h2
      have pa : PAx X ex W ys (evEs call con es) := ckPl_ok (fun ir e z => ⟨ck_okV z, (ih.e X W sc fnb g hN hs hf ir e z).1⟩) es ys h5 h3
      have hl : es.length = ys.length := all2_len h5
      have ns : es.all okV = true := all2_left (fun ir e z => ck_okV z) h5
      rcases h4 with h4 | h4
      · match ys, h4, h3, pa, hl with
        | [a], _, h3, pa, hl =>
          simp only [List.all_cons, Bool.and_eq_true] at h3
          exact semI (i_rng1 f.1 f.2.1 pa (star_each h3.1) fun ρ M ds M' z => by rw [evEs_len ns z, hl]; rfl) fun _ _ => rfl
      · match ys, h4, h3, pa, hl with
        | [a, b], _, h3, pa, hl =>
          simp only [List.all_cons, Bool.and_eq_true] at h3
          exact semI (i_rng2 f.1 f.2.1 pa (by rw [star_each h3.1, star_each h3.2.1]; rfl) (star_each h3.2.1) fun ρ M ds M' z => by rw [evEs_len ns z, hl]; rfl) fun _ _ => rfl
    · cases h
  · rename_i a
    split at h
    · rename_i x _ y _
      simp only [Bool.and_eq_true, decide_eq_true_eq] at h
      obtain ⟨⟨⟨⟨h1, h2⟩, h3⟩, h4⟩, h5⟩ := h
      subst h1
      have f := free_of g hs h2
      have pa : PAx X ex W [y] (evEs call con [a]) := ckPl_ok (fun ir e z => ⟨ck_okV z, (ih.e X W sc fnb g hN hs hf ir e z).1⟩) [a] [y] (by simp [all2, h5]) (by simp [h4])
      cases tg <;> first | (cases h3; done) | skip
      refine semI (i_enu f.1 f.2.1 pa (star_each h4)) fun ρ M => ?_
      show semEnu (evEs call con [a]) ρ M = ((evX call con a).v ρ M).bind fun x M => (valO M (itD M x)).bind fun s M => .ok (s.1, enuD 0 s.2) M
      unfold semEnu
      rw [evEs_plain (ck_okV h5)]
      show (((evX call con a).v ρ M).bind _).bind _ = _
      cases (evX call con a).v ρ M <;> rfl
    · cases h
  · rename_i a b
    split at h
    · rename_i x _ y z _
      simp only [Bool.and_eq_true, decide_eq_true_eq] at h
      obtain ⟨⟨⟨⟨⟨⟨h1, h2⟩, h3⟩, h4⟩, h5⟩, h6⟩, h7⟩ := h
      subst h1
      have f := free_of g hs h2
      have pa : PAx X ex W [y, z] (evEs call con [a, b]) := ckPl_ok (fun ir e z => ⟨ck_okV z, (ih.e X W sc fnb g hN hs hf ir e z).1⟩) [a, b] [y, z] (by simp [all2, h6, h7]) (by simp [h4, h5])
      cases tg <;> first | (cases h3; done) | skip
      refine semI (i_zip f.1 f.2.1 pa (star_each h4) (star_none (by simp [h5]))) fun ρ M => ?_
      show semZip (evEs call con [a, b]) ρ M = ((evX call con a).v ρ M).bind fun x M => ((evX call con b).v ρ M).bind fun y M => valO M (zipI M x y)
      unfold semZip
      rw [evEs_plain (ck_okV h6)]
      show (((evX call con a).v ρ M).bind _).bind _ = _
      cases (evX call con a).v ρ M with
      | ok x M1 =>
        show ((evEs call con [b] ρ M1).bind _).bind _ = ((evX call con b).v ρ M1).bind _
        rw [evEs_plain (ck_okV h7)]
        show ((((evX call con b).v ρ M1).bind _).bind _).bind _ = _
        cases (evX call con b).v ρ M1 <;> rfl
      | err c as M1 => rfl
      | bad => rfl
    · cases h
  · rename_i h1 h2 h3
    exact semI (i_val (ih.e X W sc fnb g hN hs hf _ _ h).1) fun ρ M => (evI_plain (ck_okV h) ρ M).symm
end
end J

namespace J
open PySem PySem.Spec
open PyProof.Rows L2
section
variable {X : Cx} {W : WX} {ex : Exs} {call : Nat → List D → Mem → R D} {con : Nat → Option D} {gb : Str → GB} {k : Nat}
/-- t.index(z), t a constant tuple of texts -/
theorem e_gix {g : Nat} {a : Addr} {d : D} {x : Str} {p1 ap pos : Pos} {b : Expr} {fb : Rho → Mem → R D} (hx : PEx X ex W (.Name x p1) fun _ M => valO M (con g)) (hd : con g = some d) (hr : ∀ ι H, Rep X.K ι H d (.ref a)) (hm : X.mg x = some (.ref a)) (hg : Gl X x) (hdb : (x == ("__debug__" : Str)) = false)
    (ho : (∃ ds, d = .tup ds) → ∃ o, X.K.lookup a = some o ∧ o.cls = .type "tuple" ∧ o.dict = none) (hb : PEx X ex W b fb) (hline : (ap.endLine == pos.line) = true) (hs : starEach [b] X.env = (false, eval b X.env) :: starEach [] X.env) :
    PEx X ex W (.Call (.Attribute (.Name x p1) "index" ap) [b] [] pos) fun ρ M => if isTupO (con g) then (fb ρ M).bind fun y M => valO M ((con g).bind fun t => gixD t y) else .bad := by
  have px : PE X (.Name x p1) (tC (.ref a)) := pe_glob hg hm rfl hdb
  refine (pe_bm PySem.F.plainAttrs_tuple PySem.F.slot_tuple_index PySem.F.type_tuple_index mt_tup_index px (pa_cons hb pa_nil hs) rfl (by
    have h0 : (backTo pos (starEach [b] X.env)).all (fun x => !x.1) = true := by rw [hs]; rfl
    rw [h0]; rfl) hline hs rfl).imp ?_
  rintro σ H Q ⟨ι, ρ, M, m, r, p⟩
  dsimp only at p
  have hdt : ∃ ds, d = .tup ds := by
    by_cases h : isTupO (con g) = true
    · rw [hd] at h
      cases d <;> first | (cases h; done) | exact ⟨_, rfl⟩
    · rw [if_neg h] at p; exact p.elim
  have hi : isTupO (con g) = true := by
    obtain ⟨ds, rfl⟩ := hdt
    rw [hd]; rfl
  rw [if_pos hi] at p
  have hty : ∀ H', (∃ ds, d = .tup ds) → tyV X.K "tuple" (.ref a) H' := fun H' h => .inr (.inl ⟨rfl, ho h⟩)
  have pick : ∀ {H1 : Hp} {ι1 : List Addr} {M1 : Mem} {y : D} {v : V}, RepM X.K ι1 H1 M1 → Rep X.K ι1 H1 y v → Post X.K ex (Rep X.K) (fun c d H => W c d σ H) ι1 H1 (valO M1 ((con g).bind fun t => gixD t y)) Q → ∃ p, ∃ ys : List Str, ∃ z j, V.ref a = .ref p ∧ [v] = [.str z] ∧ SqT X.K H1 p (ys.map V.str) ∧ ys[j]? = some z ∧ (∀ m, m < j → ys[m]? ≠ some z) ∧ Q (.int (j : Nat)) H1 := by
    intro H1 ι1 M1 y v m1 ry p1
    rw [hd, Option.bind_some] at p1
    cases d <;> first | (exact p1.elim) | skip
    rename_i ds
    cases y <;> first | (exact p1.elim) | skip
    rename_i z
    simp only [gixD] at p1
    cases e1 : strsD ds with
    | none => rw [e1] at p1; exact p1.elim
    | some ys =>
      rw [e1, Option.bind_some] at p1
      cases e2 : idxD (.str z) ds with
      | none => rw [e2] at p1; exact p1.elim
      | some j =>
        rw [e2] at p1
        obtain ⟨b', vs, eb, hs', rv⟩ := rep_tup (hr ι1 H1)
        cases eb
        have ev := strs_of rv e1
        subst ev
        have fl : ds.all flatD = true := by
          have : ∀ (ds : List D) (ys : List Str), strsD ds = some ys → ds.all flatD = true := by
            intro ds
            induction ds with
            | nil => intro _ _; rfl
            | cons d ds ih =>
              intro ys e
              cases d <;> first | (cases e; done) | skip
              simp only [strsD] at e
              cases e3 : strsD ds with
              | none => rw [e3] at e; cases e
              | some zs => simp only [List.all_cons, flatD, Bool.true_and]; exact ih zs e3
          exact this ds ys e1
        obtain ⟨w, h1, h2, h3⟩ := idx_of ry rfl rv fl e2
        have hz : ∀ (i : Nat) (w : V), (ys.map V.str)[i]? = some w → ∃ u, ys[i]? = some u ∧ w = .str u := by
          intro i w hw
          rw [List.getElem?_map] at hw
          cases e4 : ys[i]? with
          | none => rw [e4] at hw; cases hw
          | some u => rw [e4] at hw; exact ⟨u, rfl, (Option.some.inj hw).symm⟩
        rw [rep_str ry] at h2 h3 ⊢
        obtain ⟨u, hu, rfl⟩ := hz j w h1
        have e5 : u = z := by simpa [eqV] using h2
        subst e5
        refine ⟨a, ys, u, j, rfl, rfl, hs', hu, fun i hi hc => ?_, p1.now m1 .int⟩
        have := h3 i (.str u) hi (by rw [List.getElem?_map, hc]; rfl)
        simp [eqV] at this
  refine ⟨hty H hdt, ι, ρ, M, m, r, p.seq.imp ?_⟩
  rintro v H1 ⟨y, ι1, M1, st, m1, ry, e, p1⟩
  exact pick m1 ry p1
end
end J

namespace J
open PySem PySem.Spec
open PyProof.Rows L2
section
variable {X : Cx} {W : WX} {ex : Exs} {call : Nat → List D → Mem → R D} {con : Nat → Option D} {gb : Str → GB} {k : Nat}
/-! ## dict displays -/
def flat (ps : List (V × V)) : List V := ps.flatMap fun p => [p.1, p.2]
theorem flat_inj : ∀ {a b : List (V × V)}, flat a = flat b → a = b
  | [], [], _ => rfl
  | [], _ :: _, h => by simp [flat] at h
  | _ :: _, [], h => by simp [flat] at h
  | (x, y) :: a, (z, w) :: b, h => by
    have e : x :: y :: flat a = z :: w :: flat b := h
    injection e with e1 e2
    injection e2 with e2 e3
    rw [e1, e2, flat_inj e3]
theorem pps_ok {p : E → Expr → Bool} {pos : Pos} (hp : ∀ ir e, p ir e = true → okV ir = true ∧ PEx X ex W e (evE call con ir)) : ∀ (es : List E) (ks : List (Option Expr)) (vs : List Expr), ckD p es ks vs = true →
    ks.length = vs.length ∧ ks.all (·.isSome) = true ∧ ∃ trs, PPs X pos ks vs trs ∧ ∀ σ H Q, tA X.K ex W (evEs call con es) σ H (fun xs H' => ∀ ps, flat ps = xs → Q ps H') → tPairs trs σ H Q
  | [], [], [], _ => ⟨rfl, rfl, [], pps_nil, fun σ H Q h => by
    obtain ⟨ι, ρ, M, m, r, q⟩ := h
    exact q.now m .nil [] rfl⟩
  | [], [], _ :: _, h => by simp [ckD] at h
  | [], _ :: _, _, h => by simp [ckD] at h
  | [_], _, _, h => by simp [ckD] at h
  | _ :: _ :: _, [], _, h => by simp [ckD] at h
  | _ :: _ :: _, none :: _, _, h => by simp [ckD] at h
  | _ :: _ :: _, some _ :: _, [], h => by simp [ckD] at h
  | k :: v :: es, some a :: ks, b :: vs, h => by
    simp only [ckD, Bool.and_eq_true] at h
    obtain ⟨hl, ha, trs, ht, hr⟩ := pps_ok hp es ks vs h.2
    refine ⟨by simp [hl], by simpa using ha, _ :: trs, pps_cons (hp k a h.1.1).2 (hp v b h.1.2).2 ht, fun σ H Q q => ?_⟩
    obtain ⟨ι, ρ, M, m, r, q⟩ := q
    rw [evEs_plain (hp k a h.1.1).1] at q
    refine ⟨ι, ρ, M, m, r, q.seq.imp ?_⟩
    rintro x H1 ⟨d, ι1, M1, st, m1, rx, e, p1⟩
    rw [evEs_plain (hp v b h.1.2).1, R.bind_assoc] at p1
    refine ⟨ι1, ρ, M1, m1, r.mono st, p1.seq.imp ?_⟩
    rintro y H2 ⟨d2, ι2, M2, st2, m2, ry, e2, p2⟩
    rw [R.bind_assoc] at p2
    refine hr σ H2 _ ⟨ι2, ρ, M2, m2, (r.mono st).mono st2, p2.seq.imp ?_⟩
    rintro xs H3 ⟨ds, ι3, M3, st3, m3, rs, e3, p3⟩ ps hps
    exact p3.now m3 (.cons ((rx.mono st2).mono st3) (.cons (ry.mono st3) rs)) ((x, y) :: ps) (by rw [← hps]; rfl)
theorem pairs2_of {K : PySem.W.Frag} {ι : List Addr} {H : Hp} : ∀ (n : Nat) {ds : List D} {vs : List V} {kvs : List (Key × D)}, ds.length ≤ n → Reps K ι H ds vs → pairs2 ds = some kvs → ∃ ws : List (Key × V), vs = flat (ws.map fun kv => (kV kv.1, kv.2)) ∧ RepKs K ι H kvs ws
  | _, [], vs, kvs, _, r, e => by cases e; exact ⟨[], r.inv_nil, by simp [RepKs]⟩
  | _, [_], vs, kvs, _, r, e => by cases e
  | 0, _ :: _ :: _, _, _, hl, _, _ => by simp at hl
  | n + 1, k :: v :: t, vs, kvs, hl, r, e => by
    obtain ⟨x, u, rfl, q, q'⟩ := r.inv_cons
    obtain ⟨y, u, rfl, q2, q3⟩ := q'.inv_cons
    simp only [pairs2] at e
    cases ek : toKey k with
    | none => rw [ek] at e; cases e
    | some kk =>
      rw [ek, Option.bind_some] at e
      cases et : pairs2 t with
      | none => rw [et] at e; cases e
      | some more =>
        rw [et] at e; cases e
        obtain ⟨ws, rfl, hr⟩ := pairs2_of n (by simp at hl; omega) q3 et
        rw [toKey_of q ek]
        exact ⟨(kk, y) :: ws, rfl, by simp only [RepKs]; exact ⟨y, ws, rfl, q2, hr⟩⟩
theorem e_dis {p : E → Expr → Bool} {pos : Pos} {es : List E} {ks : List (Option Expr)} {vs : List Expr} (hp : ∀ ir e, p ir e = true → okV ir = true ∧ PEx X ex W e (evE call con ir)) (h : ckD p es ks vs = true) (h15 : ks.length ≤ 15) :
    PEx X ex W (.Dict ks vs pos) fun ρ M => (evEs call con es ρ (M ++ [.dic []])).bind fun ds M1 => disK M.length ds M1 := by
  obtain ⟨hl, ha, trs, ht, hr⟩ := pps_ok (pos := pos) hp es ks vs h
  by_cases h0 : ks = []
  · subst h0
    obtain rfl : vs = [] := by cases vs; rfl; cases hl
    obtain rfl : es = [] := by cases es with | nil => rfl | cons a b => cases b <;> simp [ckD] at h
    refine pe_dnewK.imp ?_
    rintro σ H Q ⟨ι, ρ, M, m, r, q⟩
    intro pA hA
    have q1 : PostV X.K ι H (some (.cell M.length, M ++ [.dic []])) Q := by
      have e : ((evEs call con [] ρ (M ++ [.dic []])).bind fun ds M1 => disK M.length ds M1) = .ok (.cell M.length) (M ++ [.dic []]) := by
        show disK M.length [] (M ++ [.dic []]) = _
        simp [disK, dicAt, pairs2, mergeD]
      have q2 := q
      simp only [e] at q2
      exact q2
    exact q1.newK m (by simp [RepKs]) hA
  · refine (pe_disp ht ha hl h0 h15).imp ?_
    rintro σ H Q ⟨ι, ρ, M, m, r, q⟩
    intro pA hA
    have st0 : Step X.K ι H (ι ++ [pA]) (upd H pA (.dK [])) := step_new hA [pA] (by simp)
    have m0 : RepM X.K (ι ++ [pA]) (upd H pA (.dK [])) (M ++ [.dic []]) := m.push hA ⟨[], upd_same, by simp [RepKs]⟩
    refine hr σ _ _ ⟨ι ++ [pA], ρ, _, m0, r.mono st0, (q.at st0).seq.imp ?_⟩
    rintro xs H1 ⟨ds, ι1, M1, st, m1, rs, e, p1⟩ ps hps
    unfold disK at p1
    split at p1
    · rename_i hd
      split at p1
      · rename_i kvs hk
        split at p1
        · rename_i hz
          have hM : M1[M.length]? = some (.dic []) := by
            unfold dicAt at hd
            split at hd
            · rename_i h; cases hd; exact h
            · cases hd
          have hpA : ι1[M.length]? = some pA := st.get (by rw [← m.len]; simp)
          obtain ⟨ws0, hw, rw0⟩ := dic_at m1 hpA hM
          simp only [RepKs] at rw0
          subst rw0
          obtain ⟨ws, e1, hks⟩ := pairs2_of ds.length (Nat.le_refl _) rs hk
          have e2 : ps = ws.map fun kv => (kV kv.1, kv.2) := flat_inj (hps.trans e1)
          refine ⟨hw, ws, e2, by rw [← hks.length]; exact hz, ?_⟩
          have stp : Step X.K ι1 H1 ι1 (upd H1 pA (.dK (mergeK [] ws))) := step_put hpA hw ⟨(fun _ z => nomatch z), (fun _ _ z => nomatch z)⟩
          exact p1 ι1 _ _ stp (m1.put hpA stp ⟨_, upd_same, (mergeK_of (by simp [RepKs]) hks).mono stp⟩) (.cell hpA)
        · exact p1.elim
      · exact p1.elim
    · exact p1.elim
end
end J

namespace J
open PySem PySem.Spec
open PyProof.Rows L2
section
variable {ex : Exs} {call : Nat → List D → Mem → R D} {con : Nat → Option D} {gb : Str → GB} {k : Nat} {N : List Str} {n : Nat}
theorem glb_of {X : Cx} {sc : Scope} (hs : X.env.scope = sc) {x : Str} (h : gloB sc x = true) : Gl X x := by
  show X.env.scope.names.lookup x = _
  rw [hs]; exact glo_of h
theorem con_of {X : Cx} {W : WX} (g : Gd X W ex call con gb k) {x : Str} {j : Nat} (h : isCon gb x j = true) : ∃ u v d, X.mg x = some u ∧ RelV v u ∧ con j = some d ∧ (∀ ι H, Rep X.K ι H d v) ∧ ∀ a, v = .ref a → (∃ ds, d = .tup ds) → ∃ o, X.K.lookup a = some o ∧ o.cls = .type "tuple" ∧ o.dict = none := by
  unfold isCon at h
  split at h
  · rename_i i hi
    have e : i = j := by simpa using h
    subst e
    exact g.con x i hi
  · cases h
theorem e_glo {X : Cx} {W : WX} (g : Gd X W ex call con gb k) {sc : Scope} (hs : X.env.scope = sc) {x : Str} {j : Nat} {pos : Pos} (h1 : gloB sc x = true) (h2 : isCon gb x j = true) (h3 : nmB x = true) : PEx X ex W (.Name x pos) fun _ M => valO M (con j) := by
  obtain ⟨u, v, d, hm, rv, hd, hr, _⟩ := con_of g h2
  rw [hd]
  exact e_con (pe_glob (glb_of hs h1) hm rv (nm_of h3).1) hr
theorem dct_of {X : Cx} {W : WX} (g : Gd X W ex call con gb k) {x : Str} {j : Nat} (h : isDct gb x j = true) : ∃ a ds kvs, X.mg x = some (.ref a) ∧ con j = some (.tup ds) ∧ pairsD ds = some kvs ∧ KTab X.K X.w a kvs := by
  unfold isDct at h
  split at h
  · rename_i i hi
    have e : i = j := by simpa using h
    subst e
    exact g.dic x i hi
  · cases h
def bltV : Blt → Value
  | .len => .builtin "len" | .int => .type "int" | .tuple => .type "tuple" | .list => .type "list" | .dict => .type "dict" | .isi _ => .builtin "isinstance"
theorem blt_boot (b : Blt) : bootBuiltins (bltN b) = some (bltV b) := by
  cases b with
  | isi t => exact (by decide +kernel : bootBuiltins "isinstance" = some (.builtin "isinstance"))
  | len => decide +kernel
  | int => decide +kernel
  | tuple => decide +kernel
  | list => decide +kernel
  | dict => decide +kernel
theorem ty_boot (t : Ty) : bootBuiltins (tyS t) = some (.type (tyN t)) := by cases t <;> decide +kernel
theorem and_one {X : Cx} {W : WX} {op : BoolOp} {a : Expr} {pos : Pos} {f : Rho → Mem → R D} {t : Rho → Mem → R Bool} (h : PEx X ex W a f ∧ PTx X ex W a t) : PEx X ex W (.BoolOp op [a] pos) f ∧ PTx X ex W (.BoolOp op [a] pos) t := ⟨pe_one h.1, t_and1 h.2⟩
theorem ok_succ (ih : OkE N ex call con gb k n) : OkE N ex call con gb k (n + 1) := by
  refine ⟨fun X W sc fnb g hN hs hf ir e h => ?_, fun X W sc fnb g hN hs hf ir e h => okP ih g hN hs hf ir e h, fun X W sc fnb g hN hs hf ir tg e h => okI ih g hN hs hf ir tg e h⟩
  have IH := fun ir e z => ih.e X W sc fnb g hN hs hf ir e z
  have IA : ∀ es xs, all2 (ckA (ckE N gb n sc fnb)) es xs = true → PAx X ex W xs (evEs call con es) := fun es xs z => ckA_ok (fun ir e z => ⟨ck_okV z, (IH ir e z).1⟩) es xs z
  cases ir with
  | var i =>
    simp only [ckE] at h
    split at h
    · simp only [Bool.and_eq_true, decide_eq_true_eq] at h
      have v := vis_of h.1.2
      rw [← hs] at v
      exact both rfl (sem (e_var (by rw [hN]; exact h.1.1) v (nm_of h.2).1 (nm_of h.2).2.1) fun _ _ => rfl) (fun _ => rfl)
    · cases h
  | con d =>
    simp only [ckE] at h
    split at h
    · obtain ⟨v, p, r⟩ := con_rep (X := X) h
      exact both rfl (sem (e_con (p) r) fun _ _ => rfl) (fun _ => rfl)
    · cases h
  | glo j =>
    simp only [ckE] at h
    split at h
    · simp only [Bool.and_eq_true] at h
      exact both rfl (sem (e_glo g hs h.1.1 h.1.2 h.2) fun _ _ => rfl) (fun _ => rfl)
    · cases h
  | gix j a =>
    simp only [ckE] at h
    split at h
    · rename_i x p1 m ap b p
      simp only [Bool.and_eq_true, decide_eq_true_eq] at h
      obtain ⟨⟨⟨⟨⟨⟨h1, h2⟩, h3⟩, h4⟩, h5⟩, h6⟩, h7⟩ := h
      subst h1
      have hx := e_glo (W := W) (pos := p1) g hs h2 h3 h4
      obtain ⟨u, v, d, hm, rv, hd, hr, ho⟩ := con_of g h3
      by_cases hv : ∃ a, v = .ref a
      · obtain ⟨a', rfl⟩ := hv
        cases (show u = Value.ref a' from rv)
        exact both rfl (sem (e_gix hx hd hr hm (glb_of hs h2) (nm_of h4).1 (ho a' rfl) (IH _ _ h7).1 h5 (star_each h6)) fun _ _ => rfl) (fun _ => rfl)
      · refine both rfl ⟨fun pins s σ H Q I q => ?_⟩ (fun _ => rfl)
        obtain ⟨ι, ρ, M, _, _, q⟩ := q
        have hb : isTupO (con j) = false := by
          rw [hd]
          cases d <;> first | rfl | skip
          obtain ⟨a', _, e', _⟩ := rep_tup (hr [] H)
          exact (hv ⟨a', e'⟩).elim
        have z : evE call con (.gix j a) ρ M = .bad := by
          show (if isTupO (con j) = true then _ else R.bad) = R.bad
          rw [hb]; rfl
        rw [z] at q
        exact q.elim
    · cases h
  | tup es =>
    simp only [ckE] at h
    split at h
    · exact both rfl (sem (e_tup (IA _ _ h)) fun _ _ => rfl) (fun _ => rfl)
    · cases h
  | lst es =>
    simp only [ckE] at h
    split at h
    · exact both rfl (sem (e_lst (IA _ _ h)) fun _ _ => rfl) (fun _ => rfl)
    · cases h
  | dis es =>
    simp only [ckE] at h
    split at h
    · simp only [Bool.and_eq_true, decide_eq_true_eq] at h
      exact both rfl (sem (e_dis (fun ir e z => ⟨ck_okV z, (IH ir e z).1⟩) h.2 h.1) fun _ _ => rfl) (fun _ => rfl)
    · cases h
  | star _ => simp [ckE] at h
  | bin o a b =>
    simp only [ckE] at h
    split at h
    · simp only [Bool.and_eq_true] at h
      have eo := opB_eq h.1.1
      subst eo
      exact both rfl (sem (e_bin (opr_bin o) (IH _ _ h.1.2).1 (IH _ _ h.2).1) fun _ _ => rfl) (fun _ => rfl)
    · cases h
  | neg a =>
    simp only [ckE] at h
    split at h
    · exact both rfl (sem (e_neg (IH _ _ h).1) fun _ _ => rfl) (fun _ => rfl)
    · cases h
  | cmp o a b =>
    simp only [ckE] at h
    split at h
    · simp only [Bool.and_eq_true] at h
      have eo := cmB_eq h.1.1.1
      subst eo
      exact ⟨sem (e_cmp (opr_cmp g.hu64 o) (IH _ _ h.1.2).1 (IH _ _ h.2).1 (marks_of h.1.1.2)) fun _ _ => rfl, semT (t_cmp (opr_cmp g.hu64 o) (IH _ _ h.1.2).1 (IH _ _ h.2).1 (marks_of h.1.1.2)) fun _ _ => rfl⟩
    · cases h
  | cmp2 o o' a b c =>
    simp only [ckE] at h
    split at h
    · simp only [Bool.and_eq_true] at h
      obtain ⟨⟨⟨⟨⟨h1, h2⟩, h3⟩, h4⟩, h5⟩, h6⟩ := h
      have eo := cmB_eq h1
      have eo' := cmB_eq h2
      subst eo eo'
      have hm := fun {b : Expr} => (show lastMarks [copE o, copE o'] [b, _] = false from marks_of h3)
      exact ⟨sem (e_cmp2 (opr_cmp g.hu64 o) (opr_cmp g.hu64 o') (IH _ _ h4).1 (IH _ _ h5).1 (IH _ _ h6).1 hm) fun _ _ => rfl, semT (t_cmp2 (opr_cmp g.hu64 o) (opr_cmp g.hu64 o') (IH _ _ h4).1 (IH _ _ h5).1 (IH _ _ h6).1 hm) fun _ _ => rfl⟩
    · cases h
  | nott a =>
    simp only [ckE] at h
    split at h
    · exact ⟨sem (e_not (IH _ _ h).1) fun _ _ => rfl, semT (t_not (IH _ _ h).2) fun _ _ => rfl⟩
    · cases h
  | andd a b =>
    simp only [ckE] at h
    split at h
    · simp only [Bool.and_eq_true] at h
      have z := and_one (op := .And) (pos := (by assumption)) (IH _ _ h.2)
      exact ⟨sem (e_and (IH _ _ h.1).1 z.1) fun _ _ => rfl, semT (t_and (IH _ _ h.1).2 z.2) fun _ _ => rfl⟩
    · simp only [Bool.and_eq_true] at h
      have z := IH _ _ h.2
      exact ⟨sem (e_and (IH _ _ h.1).1 z.1) fun _ _ => rfl, semT (t_and (IH _ _ h.1).2 z.2) fun _ _ => rfl⟩
    · cases h
  | orr a b =>
    simp only [ckE] at h
    split at h
    · simp only [Bool.and_eq_true] at h
      have z := and_one (op := .Or) (pos := (by assumption)) (IH _ _ h.2)
      exact ⟨sem (e_or (IH _ _ h.1).1 z.1) fun _ _ => rfl, semT (t_or (IH _ _ h.1).2 z.2) fun _ _ => rfl⟩
    · simp only [Bool.and_eq_true] at h
      have z := IH _ _ h.2
      exact ⟨sem (e_or (IH _ _ h.1).1 z.1) fun _ _ => rfl, semT (t_or (IH _ _ h.1).2 z.2) fun _ _ => rfl⟩
    · cases h
  | ite c a b =>
    simp only [ckE] at h
    split at h
    · simp only [Bool.and_eq_true] at h
      exact ⟨sem (e_ite (IH _ _ h.1.1).2 (IH _ _ h.1.2).1 (IH _ _ h.2).1) fun _ _ => rfl, semT (t_ite (IH _ _ h.1.1).2 (IH _ _ h.1.2).2 (IH _ _ h.2).2) fun _ _ => rfl⟩
    · cases h
  | call f es =>
    simp only [ckE] at h
    split at h
    · rename_i x _ xs _
      simp only [Bool.and_eq_true] at h
      obtain ⟨⟨⟨⟨h1, h2⟩, h3⟩, h4⟩, h5⟩ := h
      have hfn : gb x = .fn f := by
        unfold isFn at h2
        split at h2
        · rename_i i hi
          have e : i = f := by simpa using h2
          subst e
          exact hi
        · cases h2
      obtain ⟨a, fd, ps, hm, hk, hb, F⟩ := g.fn x f hfn
      cases xs with
      | nil =>
        cases es with
        | nil => exact both rfl (sem (e_call0 F g.room (glb_of hs h1) hm hk hb g.tk (nm_of h3).1) fun _ _ => rfl) (fun _ => rfl)
        | cons _ _ => cases h5
      | cons y ys =>
        have pa := IA _ _ h5
        simp only [List.all_cons, Bool.and_eq_true] at h4
        exact both rfl (sem (e_call F g.room (glb_of hs h1) hm hk hb g.tk pa (nm_of h3).1 (star_each h4.1) (star_none h4.2)) fun _ _ => rfl) (fun _ => rfl)
    · cases h
  | blt b es =>
    simp only [ckE] at h
    split at h
    · rename_i x px y ys pc
      simp only [Bool.and_eq_true, decide_eq_true_eq] at h
      obtain ⟨⟨⟨h1, h2⟩, h3⟩, h4⟩ := h
      have f := free_of g hs h2
      have h3' := h3
      simp only [List.all_cons, Bool.and_eq_true] at h3'
      have gen : (∀ t, b ≠ .isi t) → all2 (ckA (ckE N gb n sc fnb)) es (y :: ys) = true → PEx X ex W (.Call (.Name x px) (y :: ys) [] pc) (evE call con (.blt b es)) := by
        intro hb h4
        have pa := IA _ _ h4
        have bo := blt_boot b
        rw [← h1] at bo
        cases b with
        | isi t => exact (hb t rfl).elim
        | len => exact sem (e_blt callr_len f.1 f.2.1 bo pa f.2.2.2 f.2.2.1 (star_each h3'.1) (star_none h3'.2)) fun _ _ => rfl
        | int => exact sem (e_ty callr_int f.1 f.2.1 bo pa f.2.2.2 f.2.2.1 (star_each h3'.1) (star_none h3'.2)) fun _ _ => rfl
        | tuple => exact sem (e_ty callr_tuple f.1 f.2.1 bo pa f.2.2.2 f.2.2.1 (star_each h3'.1) (star_none h3'.2)) fun _ _ => rfl
        | list => exact sem (e_ty callr_list f.1 f.2.1 bo pa f.2.2.2 f.2.2.1 (star_each h3'.1) (star_none h3'.2)) fun _ _ => rfl
        | dict => exact sem (e_ty (callr_dict g.calm) f.1 f.2.1 bo pa f.2.2.2 f.2.2.1 (star_each h3'.1) (star_none h3'.2)) fun _ _ => rfl
      cases b with
      | isi t =>
        simp only at h4
        split at h4
        · rename_i a T p2
          simp only [Bool.and_eq_true, decide_eq_true_eq] at h4
          obtain ⟨⟨h5, h6⟩, h7⟩ := h4
          have fT := free_of g hs h7
          subst h6
          have e1 : x = "isinstance" := h1
          subst e1
          refine both rfl (sem (e_isi (t := t) (ty_boot t) fT.1 fT.2.1 fT.2.2.2 fT.2.2.1 f.1 f.2.1 (IH _ _ h5).1 (star_each h3'.1)) fun ρ M => ?_) (fun _ => rfl)
          show _ = ((evEs call con [a] ρ M).bind fun ds M => ofO (bltD (.isi t) ds M))
          rw [evEs_plain (ck_okV h5)]
          cases evE call con a ρ M <;> rfl
        · cases h4
      | len => exact both rfl (gen (fun _ z => by cases z) h4) (fun _ => rfl)
      | int => exact both rfl (gen (fun _ z => by cases z) h4) (fun _ => rfl)
      | tuple => exact both rfl (gen (fun _ z => by cases z) h4) (fun _ => rfl)
      | list => exact both rfl (gen (fun _ z => by cases z) h4) (fun _ => rfl)
      | dict => exact both rfl (gen (fun _ z => by cases z) h4) (fun _ => rfl)
    · cases h
  | mth mt o es =>
    simp only [ckE] at h
    split at h
    · rename_i x nm ap ys p
      simp only [Bool.and_eq_true, decide_eq_true_eq] at h
      obtain ⟨⟨⟨⟨⟨⟨h1, h2⟩, h3⟩, h4⟩, h5⟩, h6⟩, h7⟩ := h
      subst h1
      cases ys with
      | nil =>
        cases es with
        | nil => exact both rfl (sem (e_mth0 (mth_r g.hu mt) (IH _ _ h6).1 (base_of h3) h2) fun _ _ => rfl) (fun _ => rfl)
        | cons _ _ => cases h7
      | cons y ys =>
        have pa := IA _ _ h7
        have h4' := h4
        simp only [List.all_cons, Bool.and_eq_true] at h4'
        exact both rfl (sem (e_mth (mth_r g.hu mt) (IH _ _ h6).1 pa (base_of h3) (by
          rw [star_all h4]
          have : decide ((y :: ys).length + ([] : List Keyword).length + (if ([] : List Keyword).isEmpty then 0 else 1) < 30) = true := by
            simp only [decide_eq_true_eq]
            have e0 : ([] : List Keyword).length = 0 := rfl
            have e1 : (if ([] : List Keyword).isEmpty = true then 0 else 1) = 0 := rfl
            rw [e0, e1]
            omega
          rw [this]
          rfl) h2 (star_each h4'.1) (star_none h4'.2)) fun _ _ => rfl) (fun _ => rfl)
    · cases h
  | ix a i =>
    simp only [ckE] at h
    split at h
    · simp only [Bool.and_eq_true] at h
      exact both rfl (sem (e_ix g.hu (IH _ _ h.1.2).1 (IH _ _ h.2).1 (sl_of h.1.1)) fun _ _ => rfl) (fun _ => rfl)
    · cases h
  | nop => simp [ckE] at h
  | sl a lo hi =>
    simp only [ckE] at h
    split at h
    · simp only [Bool.and_eq_true] at h
      exact both rfl (sem (e_sl (IH _ _ h.1.1).1 (ih.p X W sc fnb g hN hs hf _ _ h.1.2) (ih.p X W sc fnb g hN hs hf _ _ h.2)) fun _ _ => rfl) (fun _ => rfl)
    · cases h
  | comp own t it cs el =>
    simp only [ckE] at h
    split at h
    · rename_i elt tg iter ifs scope pos
      simp only [Bool.and_eq_true, decide_eq_true_eq, List.all_eq_true] at h
      obtain ⟨⟨⟨⟨⟨⟨⟨h1, h2⟩, h3⟩, h4⟩, h5⟩, h6⟩, h7⟩, h8⟩ := h
      have eo : (own.map fun i => (N.getD i Str.empty, i)).map (·.2) = own := by
        rw [List.map_map]
        exact List.map_id'' (fun _ => rfl) own
      have gb' : ∀ (s : Shared) (H : Hp) (C : Addr) (cl : List (Str × Addr)) (fp : List Addr), Gd (X.blk s H scope (compEnvC scope cl C X.env) fp) W0 ex call con gb k := fun s H C cl fp => g.blk s H scope _ fp
      have sc' : ∀ (s : Shared) (H : Hp) (C : Addr) (cl : List (Str × Addr)) (fp : List Addr), (X.blk s H scope (compEnvC scope cl C X.env) fp).env.scope = relS scope sc := fun s H C cl fp => by rw [← hs]; rfl
      have cnd : ∀ (s : Shared) (H : Hp) (C : Addr) (cl : List (Str × Addr)) (fp : List Addr), PTs (X.blk s H scope (compEnvC scope cl C X.env) fp) ifs (tT X.K ex W0 (evCs call con cs)) := by
        intro s H C cl fp
        match ifs, h6, cs, h7 with
        | [], _, [], _ => exact ts_nil
        | [], _, _ :: _, h7 => cases h7
        | [c], _, [], h7 => cases h7
        | [c], _, [d], h7 =>
          simp only [all2, Bool.and_true] at h7
          have z := (ih.e _ W0 _ _ (gb' s H C cl fp) hN (sc' s H C cl fp) (fun _ => rfl) _ _ h7).2
          have e1 : evCs call con [d] = evT call con d := by
            funext ρ M
            show ((evT call con d ρ M).bind fun k M => if k then R.ok true M else R.ok false M) = _
            cases evT call con d ρ M with
            | ok k M1 => cases k <;> rfl
            | err c as M1 => rfl
            | bad => rfl
          rw [e1]
          exact ts_one z
        | [c], _, _ :: _ :: _, h7 => simp [all2] at h7
        | _ :: _ :: _, h6, _, _ => simp at h6
      have z := e_comp (pos := pos) (own := own.map fun i => (N.getD i Str.empty, i)) (ft := evCs call con cs) g.calm g.nd (ih.i X W sc fnb g hN hs hf it tg iter h5) (by rw [hN, hs]; exact blkOk_by h1)
        (fun s H C cl fp => ckT_ok (X := X.blk s H scope (compEnvC scope cl C X.env) fp) (gb' s H C cl fp).calm (gb' s H C cl fp).nd hN (sc' s H C cl fp) (fun _ => rfl) n t tg h2) cnd
        (fun s H C cl fp => (ih.e _ W0 _ _ (gb' s H C cl fp) hN (sc' s H C cl fp) (fun _ => rfl) el elt h8).1)
        (by rw [eo]; exact fun i hi => by simpa using h3 i hi) (set_of h4)
      rw [eo] at z
      exact both rfl (sem z fun _ _ => rfl) (fun _ => rfl)
    · cases h
  | dcomp own t it cs ek ev =>
    simp only [ckE] at h
    split at h
    · rename_i kx vx tg iter ifs scope pos
      simp only [Bool.and_eq_true, decide_eq_true_eq, List.all_eq_true] at h
      obtain ⟨⟨⟨⟨⟨⟨⟨⟨h1, h2⟩, h3⟩, h4⟩, h5⟩, h6⟩, h7⟩, h8⟩, h9⟩ := h
      have eo : (own.map fun i => (N.getD i Str.empty, i)).map (·.2) = own := by
        rw [List.map_map]
        exact List.map_id'' (fun _ => rfl) own
      have gb' : ∀ (s : Shared) (H : Hp) (C : Addr) (cl : List (Str × Addr)) (fp : List Addr), Gd (X.blk s H scope (compEnvC scope cl C X.env) fp) W0 ex call con gb k := fun s H C cl fp => g.blk s H scope _ fp
      have sc' : ∀ (s : Shared) (H : Hp) (C : Addr) (cl : List (Str × Addr)) (fp : List Addr), (X.blk s H scope (compEnvC scope cl C X.env) fp).env.scope = relS scope sc := fun s H C cl fp => by rw [← hs]; rfl
      have cnd : ∀ (s : Shared) (H : Hp) (C : Addr) (cl : List (Str × Addr)) (fp : List Addr), PTs (X.blk s H scope (compEnvC scope cl C X.env) fp) ifs (tT X.K ex W0 (evCs call con cs)) := by
        intro s H C cl fp
        match ifs, h6, cs, h7 with
        | [], _, [], _ => exact ts_nil
        | [], _, _ :: _, h7 => cases h7
        | [c], _, [], h7 => cases h7
        | [c], _, [d], h7 =>
          simp only [all2, Bool.and_true] at h7
          have z := (ih.e _ W0 _ _ (gb' s H C cl fp) hN (sc' s H C cl fp) (fun _ => rfl) _ _ h7).2
          have e1 : evCs call con [d] = evT call con d := by
            funext ρ M
            show ((evT call con d ρ M).bind fun k M => if k then R.ok true M else R.ok false M) = _
            cases evT call con d ρ M with
            | ok k M1 => cases k <;> rfl
            | err c as M1 => rfl
            | bad => rfl
          rw [e1]
          exact ts_one z
        | [c], _, _ :: _ :: _, h7 => simp [all2] at h7
        | _ :: _ :: _, h6, _, _ => simp at h6
      have z := e_dcomp (pos := pos) (own := own.map fun i => (N.getD i Str.empty, i)) (ft := evCs call con cs) g.calm g.nd (ih.i X W sc fnb g hN hs hf it tg iter h5) (by rw [hN, hs]; exact blkOk_by h1)
        (fun s H C cl fp => ckT_ok (X := X.blk s H scope (compEnvC scope cl C X.env) fp) (gb' s H C cl fp).calm (gb' s H C cl fp).nd hN (sc' s H C cl fp) (fun _ => rfl) n t tg h2) cnd
        (fun s H C cl fp => (ih.e _ W0 _ _ (gb' s H C cl fp) hN (sc' s H C cl fp) (fun _ => rfl) ek kx h8).1)
        (fun s H C cl fp => (ih.e _ W0 _ _ (gb' s H C cl fp) hN (sc' s H C cl fp) (fun _ => rfl) ev vx h9).1)
        (by rw [eo]; exact fun i hi => by simpa using h3 i hi) (set_of h4)
      rw [eo] at z
      exact both rfl (sem z fun _ _ => rfl) (fun _ => rfl)
    · cases h
  | gget j ek ed =>
    simp only [ckE] at h
    split at h
    · rename_i x p1 m ap b c p
      simp only [Bool.and_eq_true, decide_eq_true_eq] at h
      obtain ⟨⟨⟨⟨⟨⟨⟨⟨h1, h2⟩, h3⟩, h4⟩, h5⟩, h6⟩, h7⟩, h8⟩, h9⟩ := h
      subst h1
      obtain ⟨a, ds, kvs, hm, hc, hp, T⟩ := dct_of g h3
      have md : M2 X (.Name x p1) "get" ap b c p := ⟨rfl, by
        rw [star_all (by simp [h6, h7])]
        rfl, h5, by rw [star_each h6, star_each h7]; rfl⟩
      exact both rfl (sem (e_gget (glb_of hs h2) hm (nm_of h4).1 T hc hp (IH _ _ h8).1 (IH _ _ h9).1 md) fun _ _ => rfl) (fun _ => rfl)
    · cases h
  | gin neg j ek =>
    simp only [ckE] at h
    split at h
    · rename_i b op x p1 p
      simp only [Bool.and_eq_true, decide_eq_true_eq] at h
      obtain ⟨⟨⟨⟨h1, h2⟩, h3⟩, h4⟩, h5⟩ := h
      obtain ⟨a, ds, kvs, hm, hc, hp, T⟩ := dct_of g h3
      have ho : op = ginO neg := h1
      subst ho
      exact ⟨sem (e_gin (glb_of hs h2) hm (nm_of h4).1 T hc hp (IH _ _ h5).1 neg) fun _ _ => rfl, semT (t_gin (glb_of hs h2) hm (nm_of h4).1 T hc hp (IH _ _ h5).1 neg) fun _ _ => rfl⟩
    · cases h
  | gix2 j ek =>
    simp only [ckE] at h
    split at h
    · rename_i x p1 b p
      simp only [Bool.and_eq_true] at h
      obtain ⟨⟨⟨⟨h2, h3⟩, h4⟩, h5⟩, h6⟩ := h
      obtain ⟨a, ds, kvs, hm, hc, hp, T⟩ := dct_of g h3
      exact both rfl (sem (e_gix2 (glb_of hs h2) hm (nm_of h4).1 T hc hp (IH _ _ h6).1 (sl_of h5)) fun _ _ => rfl) (fun _ => rfl)
    · cases h
  | unk => exact ⟨⟨fun pins s σ H Q I q => by obtain ⟨ι, ρ, M, _, _, q⟩ := q; exact q.elim⟩, ⟨fun pins s σ H Q I q => by obtain ⟨ι, ρ, M, _, _, q⟩ := q; exact q.elim⟩⟩
  | rng _ => simp [ckE] at h
  | enu _ => simp [ckE] at h
  | zip _ _ => simp [ckE] at h
theorem ok_all : ∀ n, OkE N ex call con gb k n
  | 0 => ⟨fun X W sc fnb g hN hs hf ir e h => by simp [ckE] at h, fun X W sc fnb g hN hs hf ir e h => by simp [ckP] at h, fun X W sc fnb g hN hs hf ir tg e h => by simp [ckI] at h⟩
  | n + 1 => ok_succ (ok_all n)
end
end J

namespace J
open PySem PySem.Spec
open PyProof.Rows L2
def PostS (K : PySem.W.Frag) (ex : Exs) (W : WX) (ι : List Addr) (H : Hp) (r : R F) (Dn : Ends) : Prop := match r with
  | .ok (.nx ρ') M' => ∀ ι' H' σ', Step K ι H ι' H' → RepM K ι' H' M' → RepRho K ι' H' ρ' σ' → Dn.nx σ' H'
  | .ok (.bk ρ') M' => ∀ ι' H' σ', Step K ι H ι' H' → RepM K ι' H' M' → RepRho K ι' H' ρ' σ' → Dn.bk σ' H'
  | .ok (.ct ρ') M' => ∀ ι' H' σ', Step K ι H ι' H' → RepM K ι' H' M' → RepRho K ι' H' ρ' σ' → Dn.ct σ' H'
  | .ok (.rt d) M' => ∀ ι' H' v, Step K ι H ι' H' → RepM K ι' H' M' → Rep K ι' H' d v → Dn.rt v H'
  | .ok (.xc c as ρ') M' => ∀ ι' H' σ' cls dx, Step K ι H ι' H' → RepM K ι' H' M' → RepRho K ι' H' ρ' σ' → RX K ex ι' H' c as cls dx → W cls dx σ' H'
  | _ => False
def tS (K : PySem.W.Frag) (ex : Exs) (W : WX) (f : Rho → Mem → R F) : TS := fun Dn σ H => ∃ ι ρ M, RepM K ι H M ∧ RepRho K ι H ρ σ ∧ PostS K ex W ι H (f ρ M) Dn
theorem _root_.L2.PS.imp {X : Cx} {e : Stmt} {t t' : TS} (h : PS X e t) (w : ∀ Dn σ H, t' Dn σ H → t Dn σ H) : PS X e t' := ⟨fun pins s σ H Dn I q => h.run pins s σ H Dn I (w Dn σ H q)⟩
theorem _root_.L2.PSs.imp {X : Cx} {e : List Stmt} {t t' : TS} (h : PSs X e t) (w : ∀ Dn σ H, t' Dn σ H → t Dn σ H) : PSs X e t' := ⟨fun pins s σ H Dn I q => h.run pins s σ H Dn I (w Dn σ H q)⟩
section
variable {K : PySem.W.Frag} {ex : Exs} {W : WX} {ι ι' : List Addr} {H H' : Hp} {σ : L2.St} {ρ : Rho} {M : Mem} {Dn : Ends}
theorem PostS.at {r : R F} (st : Step K ι H ι' H') (p : PostS K ex W ι H r Dn) : PostS K ex W ι' H' r Dn := by
  cases r with
  | ok f M =>
    cases f with
    | nx ρ => exact fun ι2 H2 σ2 a b c => p ι2 H2 σ2 (st.trans a) b c
    | bk ρ => exact fun ι2 H2 σ2 a b c => p ι2 H2 σ2 (st.trans a) b c
    | ct ρ => exact fun ι2 H2 σ2 a b c => p ι2 H2 σ2 (st.trans a) b c
    | rt d => exact fun ι2 H2 v a b c => p ι2 H2 v (st.trans a) b c
    | xc c as ρ => exact fun ι2 H2 σ2 cls dx a b c d => p ι2 H2 σ2 cls dx (st.trans a) b c d
  | err c as M => exact p
  | bad => exact p
theorem PostS.bind {α β : Type} {rel : List Addr → Hp → α → β → Prop} {r : R α} {f : α → Mem → R F} (rr : RepRho K ι H ρ σ) (p : PostS K ex W ι H (bindS ρ r f) Dn) :
    Post K ex rel (fun c d H => W c d σ H) ι H r fun v H1 => ∃ d ι1 M1, Step K ι H ι1 H1 ∧ RepM K ι1 H1 M1 ∧ rel ι1 H1 d v ∧ PostS K ex W ι1 H1 (f d M1) Dn := by
  cases r with
  | ok a M => exact fun ι' H' v st m q => ⟨a, ι', M, st, m, q, p.at st⟩
  | err c as M => exact fun ι' H' cls dx st m q => p ι' H' σ cls dx st m (rr.mono st) q
  | bad => exact p
theorem PostS.seq {r : R F} {f : Rho → Mem → R F} (p : PostS K ex W ι H (seqS r f) Dn) : PostS K ex W ι H r { Dn with nx := fun σ' H' => tS K ex W f Dn σ' H' } := by
  cases r with
  | ok g M =>
    cases g with
    | nx ρ => exact fun ι' H' σ' st m rr => ⟨ι', ρ, M, m, rr, PostS.at st p⟩
    | bk ρ => exact p
    | ct ρ => exact p
    | rt d => exact p
    | xc c as ρ => exact p
  | err c as M => exact p
  | bad => exact p
end
section
variable {X : Cx} {ex : Exs} {W : WX} {pos : Pos} {e o i : Expr} {s : Stmt} {ss : List Stmt} {fe fo fi : Rho → Mem → R D} {fs gs : Rho → Mem → R F} {ft : Rho → Mem → R Bool}
abbrev PSx (X : Cx) (ex : Exs) (W : WX) (s : Stmt) (f : Rho → Mem → R F) : Prop := PS X s (tS X.K ex W f)
abbrev PSsx (X : Cx) (ex : Exs) (W : WX) (s : List Stmt) (f : Rho → Mem → R F) : Prop := PSs X s (tS X.K ex W f)
theorem s_nil : PSsx X ex W [] fun ρ M => .ok (.nx ρ) M := by
  refine pss_nil.imp ?_
  rintro Dn σ H ⟨ι, ρ, M, m, r, p⟩
  exact p ι H σ .refl m r
theorem s_cons (h1 : PSx X ex W s fs) (h2 : PSsx X ex W ss gs) : PSsx X ex W (s :: ss) fun ρ M => seqS (fs ρ M) gs := by
  refine (pss_cons h1 h2).imp ?_
  rintro Dn σ H ⟨ι, ρ, M, m, r, p⟩
  exact ⟨ι, ρ, M, m, r, p.seq⟩
theorem s_pass : PSx X ex W (.Pass pos) fun ρ M => .ok (.nx ρ) M := by
  refine ps_pass.imp ?_
  rintro Dn σ H ⟨ι, ρ, M, m, r, p⟩
  exact p ι H σ .refl m r
theorem s_brk : PSx X ex W (.Break pos) fun ρ M => .ok (.bk ρ) M := by
  refine ps_break.imp ?_
  rintro Dn σ H ⟨ι, ρ, M, m, r, p⟩
  exact p ι H σ .refl m r
theorem s_cont : PSx X ex W (.Continue pos) fun ρ M => .ok (.ct ρ) M := by
  refine ps_continue.imp ?_
  rintro Dn σ H ⟨ι, ρ, M, m, r, p⟩
  exact p ι H σ .refl m r
theorem s_expr (he : PEx X ex W e fe) (hs : swapsWith e none pos.line X.env = pure false) : PSx X ex W (.Expr e pos) fun ρ M => bindS ρ (fe ρ M) fun _ M => .ok (.nx ρ) M := by
  refine (ps_expr he hs).imp ?_
  rintro Dn σ H ⟨ι, ρ, M, m, r, p⟩
  refine ⟨ι, ρ, M, m, r, (p.bind r).imp ?_⟩
  rintro v H1 ⟨d, ι1, M1, st, m1, rv, p1⟩
  exact p1 ι1 H1 σ .refl m1 (r.mono st)
theorem s_ret (he : PEx X ex W e fe) : PSx X ex W (.Return (some e) pos) fun ρ M => bindS ρ (fe ρ M) fun d M => .ok (.rt d) M := by
  refine (ps_ret he).imp ?_
  rintro Dn σ H ⟨ι, ρ, M, m, r, p⟩
  refine ⟨ι, ρ, M, m, r, (p.bind r).imp ?_⟩
  rintro v H1 ⟨d, ι1, M1, st, m1, rv, p1⟩
  exact p1 ι1 H1 v .refl m1 rv
theorem s_retN : PSx X ex W (.Return none pos) fun ρ M => .ok (.rt .non) M := by
  refine ps_retN.imp ?_
  rintro Dn σ H ⟨ι, ρ, M, m, r, p⟩
  exact p ι H .non .refl m .non
theorem s_if {a b : List Stmt} (hc : PTx X ex W e ft) (ha : PSsx X ex W a fs) (hb : PSsx X ex W b gs) : PSx X ex W (.If e a b pos) fun ρ M => bindS ρ (ft ρ M) fun k M => if k then fs ρ M else gs ρ M := by
  refine (ps_if hc ha hb).imp ?_
  rintro Dn σ H ⟨ι, ρ, M, m, r, p⟩
  refine ⟨ι, ρ, M, m, r, (p.bind (rel := relT) r).imp ?_⟩
  rintro k H1 ⟨d, ι1, M1, st, m1, rv, p1⟩
  have rv : d = k := rv
  subst rv
  cases d with
  | true => simp only [if_true] at p1 ⊢; exact ⟨ι1, ρ, M1, m1, r.mono st, p1⟩
  | false => simp only [Bool.false_eq_true, if_false] at p1 ⊢; exact ⟨ι1, ρ, M1, m1, r.mono st, p1⟩
def semAsg (t : Tg) (fe : Rho → Mem → R D) : Rho → Mem → R F := fun ρ M => bindS ρ (fe ρ M) fun d M => match asgT t d ρ with
  | some ρ => .ok (.nx ρ) M
  | none => .bad
theorem asg_of {K : PySem.W.Frag} {t : Tg} {Dn : Ends} {σ : L2.St} {H : Hp} {ι : List Addr} {ρ : Rho} {M : Mem} {d : D} {v : V} (m : RepM K ι H M) (r : RepRho K ι H ρ σ) (rv : Rep K ι H d v) (p : PostS K ex W ι H (match asgT t d ρ with | some ρ => .ok (.nx ρ) M | none => .bad) Dn) : gT K t v σ H Dn.nx := by
  cases e : asgT t d ρ with
  | none => rw [e] at p; exact p.elim
  | some ρ' => rw [e] at p; exact ⟨ι, d, ρ, ρ', rv, r, e, fun σ' rr _ => p ι H σ' .refl m rr⟩
theorem rd_asg {K : PySem.W.Frag} {t : Tg} {Dn : Ends} {σ : L2.St} {H : Hp} (p : tS K ex W (semAsg t fe) Dn σ H) : tAsg (tE K ex W fe) (gT K t) Dn σ H := by
  obtain ⟨ι, ρ, M, m, r, p⟩ := p
  refine ⟨ι, ρ, M, m, r, (p.bind r).imp ?_⟩
  rintro v H1 ⟨d, ι1, M1, st, m1, rv, p1⟩
  exact asg_of m1 (r.mono st) rv p1
theorem s_asg {tg : Expr} {t : Tg} (he : PEx X ex W e fe) (hg : PG X tg (gT X.K t)) (hs : swapsWithSole [tg] e pos.line X.env = pure false) (hw : swappedStores [tg] e X.env = pure none) (h1 : (assignEach [tg] X.env).map (·.2) = [assign tg X.env]) : PSx X ex W (.Assign [tg] e pos) (semAsg t fe) :=
  (ps_asg he hg hs hw h1).imp fun _ _ _ p => rd_asg p
theorem rd_set {K : PySem.W.Frag} {i : Nat} {te : TE} {fe : Rho → Mem → R D} (ht : ∀ σ H Q, tE K ex W fe σ H Q → te σ H Q) {Dn : Ends} {σ : L2.St} {H : Hp} (p : tS K ex W (semAsg (.nm i) fe) Dn σ H) : tAsg te (gName i) Dn σ H := by
  obtain ⟨ι, ρ, M, m, r, p⟩ := p
  refine ht _ _ _ ⟨ι, ρ, M, m, r, (p.bind r).imp ?_⟩
  rintro v H1 ⟨d, ι1, M1, st, m1, rv, p1⟩
  exact p1 ι1 H1 _ .refl m1 ((r.mono st).set rv)
theorem s_set {i : Nat} {x : Str} {pos' : Pos} (hN : X.N.Nodup) (hi : X.N[i]? = some x) (hx : Loc X.env.scope x) (he : PEx X ex W e fe) (hs : swapsWith e (some (.Name x pos')) pos.line X.env = pure false) (hf : X.fn x = true ∨ X.env.scope.names.lookup x = some .local) : PSx X ex W (.Assign [.Name x pos'] e pos) (semAsg (.nm i) fe) :=
  (ps_set hN hi hx he hs hf).imp fun _ _ _ p => rd_set (fun _ _ _ z => z) p
def semSetx (fe fo fi : Rho → Mem → R D) : Rho → Mem → R F := fun ρ M => bindS ρ (fe ρ M) fun d M => bindS ρ (fo ρ M) fun x M => bindS ρ (fi ρ M) fun y M => match setD M x y d with
  | some M => .ok (.nx ρ) M
  | none => .bad
theorem s_setx {p' : Pos} (hu : X.A.units + 1 < cLine) (he : PEx X ex W e fe) (ho : PEx X ex W o fo) (hi : PEx X ex W i fi) (hn : notSl i = true) (hs : swapsWithSole [.Subscript o i p'] e pos.line X.env = pure false) (hw : swappedStores [.Subscript o i p'] e X.env = pure none) : PSx X ex W (.Assign [.Subscript o i p'] e pos) (semSetx fe fo fi) := by
  refine (ps_asg he (pg_sub ho hi (setr hu) (by cases i <;> first | (intro _; rfl) | cases hn)) hs hw rfl).imp ?_
  rintro Dn σ H ⟨ι, ρ, M, m, r, p⟩
  refine ⟨ι, ρ, M, m, r, (p.bind r).imp ?_⟩
  rintro v H1 ⟨d, ι1, M1, st, m1, rv, p1⟩
  refine ⟨ι1, ρ, M1, m1, r.mono st, (p1.bind (r.mono st)).imp ?_⟩
  rintro x H2 ⟨dx, ι2, M2, st2, m2, rx, p2⟩
  refine ⟨ι2, ρ, M2, m2, (r.mono st).mono st2, (p2.bind ((r.mono st).mono st2)).imp ?_⟩
  rintro y H3 ⟨dy, ι3, M3, st3, m3, ry, p3⟩
  cases e4 : setD M3 dx dy d with
  | none => rw [e4] at p3; exact p3.elim
  | some M4 =>
    rw [e4] at p3
    exact ⟨ι3, M3, dx, dy, d, M4, m3, rx.mono st3, ry, (rv.mono st2).mono st3, e4, fun H' st4 m4 => p3 ι3 H' σ st4 m4 ((((r.mono st).mono st2).mono st3).mono st4)⟩
def semAug (j : Nat) (op : Bop) (fe : Rho → Mem → R D) : Rho → Mem → R F := fun ρ M => match ρ[j]? with
  | some (some x) => bindS ρ (fe ρ M) fun y M => match augD op x y M with
    | some p => .ok (.nx (ρ.set j (some p.1))) p.2
    | none => .bad
  | _ => .bad
theorem s_aug {j : Nat} {op : Bop} {x : Str} {pos' : Pos} (hN : X.N.Nodup) (hi : X.N[j]? = some x) (hx : Loc X.env.scope x) (he : PEx X ex W e fe) (hf : X.fn x = true ∨ X.env.scope.names.lookup x = some .local) : PSx X ex W (.AugAssign (.Name x pos') (bopE op) e pos) (semAug j op fe) := by
  refine (ps_aug hN hi hx he (pip_aug op) hf).imp ?_
  rintro Dn σ H ⟨ι, ρ, M, m, r, p⟩
  unfold semAug at p
  split at p
  · rename_i d hd
    obtain ⟨v, e1, rv⟩ := r.at_ j d hd
    refine ⟨v, e1, ι, ρ, M, m, r, (p.bind r).imp ?_⟩
    rintro y H1 ⟨dy, ι1, M1, st, m1, ry, p1⟩
    refine ⟨ι1, M1, d, dy, m1, rv.mono st, ry, ?_⟩
    cases e2 : augD op d dy M1 with
    | none => rw [e2] at p1; exact p1.elim
    | some q =>
      rw [e2] at p1
      exact fun ι2 H2 z st2 m2 rz => p1 ι2 H2 _ st2 m2 (((r.mono st).mono st2).set rz)
  · exact p.elim
/-! ## loops -/
theorem s_while {body : List Stmt} (hp : PassesOwn (model X.prog X.w) X.A X.env X.xe) (hc : PTx X ex W e ft) (hb : PSsx X ex W body fs) (n : Nat) : PSx X ex W (.While e body [] pos) fun ρ M => whlL ft fs n ρ M := by
  refine (ps_while hp hc hb).imp ?_
  rintro Dn σ H ⟨ι, ρ, M, m, r, p⟩
  refine ⟨fun n σ H => ∃ ι ρ M, RepM X.K ι H M ∧ RepRho X.K ι H ρ σ ∧ PostS X.K ex W ι H (whlL ft fs n ρ M) Dn, ⟨n, ι, ρ, M, m, r, p⟩, ?_⟩
  rintro n σ H ⟨ι, ρ, M, m, r, p⟩
  cases n with
  | zero => exact p.elim
  | succ n =>
    refine ⟨ι, ρ, M, m, r, (PostS.bind (rel := relT) r p).imp ?_⟩
    rintro k H1 ⟨d, ι1, M1, st, m1, rk, p1⟩
    have rk : d = k := rk
    subst rk
    cases d with
    | false => simp only [Bool.false_eq_true, if_false] at p1 ⊢; exact p1 ι1 H1 σ .refl m1 (r.mono st)
    | true =>
      simp only [if_true] at p1 ⊢
      refine ⟨fun σ' H' => ∃ ι ρ M, RepM X.K ι H' M ∧ RepRho X.K ι H' ρ σ' ∧ PostS X.K ex W ι H' (whlL ft fs n ρ M) Dn, fun σ' H' h => ⟨n, Nat.lt_succ_self n, h⟩, ι1, ρ, M1, m1, r.mono st, ?_⟩
      cases hb : fs ρ M1 with
      | err c as M2 => rw [hb] at p1; exact p1.elim
      | bad => rw [hb] at p1; exact p1.elim
      | ok f M2 =>
        rw [hb] at p1
        cases f with
        | nx ρ2 => exact fun ι' H' σ' st' m' rr => ⟨ι', ρ2, M2, m', rr, PostS.at st' p1⟩
        | ct ρ2 => exact fun ι' H' σ' st' m' rr => ⟨ι', ρ2, M2, m', rr, PostS.at st' p1⟩
        | bk ρ2 => exact p1
        | rt d => exact p1
        | xc c as ρ2 => exact p1
theorem s_for {tg iter : Expr} {body : List Stmt} {t : Tg} {fI : Rho → Mem → R Its} (hp : PassesOwn (model X.prog X.w) X.A X.env X.xe) (hc : X.calm = true) (hi : PIx X ex W tg iter fI) (hg : PG X tg (gT X.K t)) (hb : PSsx X ex W body fs) (hs : ∀ x, foldedSetIterable iter X.env x = pure x) :
    PSx X ex W (.For tg iter body [] pos) fun ρ M => bindS ρ (fI ρ M) fun its M => forL (asgT t) fs its.1 its.2 ρ M := by
  refine (ps_for hp hc hi hg hb hs).imp ?_
  rintro Dn σ H ⟨ι, ρ, M, m, r, p⟩
  refine ⟨ι, ρ, M, m, r, (p.bind r).imp ?_⟩
  rintro J H1 ⟨its, ι1, M1, st1, m1, wd, p1⟩
  obtain ⟨n, G, Y, wk, hn, hG, hY⟩ := wd
  refine for_it wk (fun i σ' H' => ∃ ι' ρ' M', Step X.K ι1 H1 ι' H' ∧ RepM X.K ι' H' M' ∧ RepRho X.K ι' H' ρ' σ' ∧ PostS X.K ex W ι' H' (forL (asgT t) fs its.1 (its.2.drop i) ρ' M') Dn) ?_ ?_ ?_ ?_
  · exact ⟨ι1, ρ, M1, .refl, m1, r.mono st1, p1⟩
  · rintro i σ' H' hi ⟨ι', ρ', M', st, m', rr, pc⟩
    refine hG ι' H' M' st m' ?_
    cases hd : its.2.drop i with
    | nil =>
      rw [hd] at pc
      simp only [forL] at pc
      split at pc
      · assumption
      · exact pc.elim
    | cons d rest =>
      rw [hd] at pc
      simp only [forL] at pc
      split at pc
      · assumption
      · exact pc.elim
  · rintro i x σ' H' H'' hi ⟨ι', ρ', M', st, m', rr, pc⟩ hy
    have hlt : i < its.2.length := by omega
    have hd : its.2.drop i = its.2[i] :: its.2.drop (i + 1) := List.drop_eq_getElem_cons hlt
    rw [hd] at pc
    simp only [forL] at pc
    split at pc
    · rename_i hck
      obtain ⟨sy, my, ry⟩ := hY i ι' H' x H'' M' its.2[i] st m' hck hy (List.getElem?_eq_getElem hlt)
      cases ea : asgT t its.2[i] ρ' with
      | none => rw [ea] at pc; exact pc.elim
      | some ρ2 =>
        rw [ea] at pc
        simp only at pc
        have pc := PostS.at sy pc
        refine ⟨ι', its.2[i], ρ', ρ2, ry, rr.mono sy, ea, fun σ2 rr2 _ => ⟨ι', ρ2, M', my, rr2, ?_⟩⟩
        cases hb : fs ρ2 M' with
        | err c as M2 => rw [hb] at pc; exact pc.elim
        | bad => rw [hb] at pc; exact pc.elim
        | ok f M2 =>
          rw [hb] at pc
          cases f with
          | nx ρ3 => exact fun ι3 H3 σ3 st3 m3 rr3 => ⟨ι3, ρ3, M2, (st.trans sy).trans st3, m3, rr3, PostS.at st3 pc⟩
          | ct ρ3 => exact fun ι3 H3 σ3 st3 m3 rr3 => ⟨ι3, ρ3, M2, (st.trans sy).trans st3, m3, rr3, PostS.at st3 pc⟩
          | bk ρ2 => exact pc
          | rt d => exact pc
          | xc c as ρ2 => exact pc
    · exact pc.elim
  · rintro σ' H' ⟨ι', ρ', M', st, m', rr, pc⟩
    rw [List.drop_of_length_le (by omega)] at pc
    simp only [forL] at pc
    split at pc
    · exact pc ι' H' σ' .refl m' rr
    · exact pc.elim
end
end J

namespace J
open PySem PySem.Spec
open PyProof.Rows L2
/-! ## a loop over a dict, which is locked meanwhile -/
section
variable {K : PySem.W.Frag} {ι ι2 : List Addr} {H H2 : Hp} {M M2 : Mem} {n : Nat} {a : Addr} {kvs : List (Key × D)} {vs : List (Key × V)} {od : Obj}
theorem sqT_upd {b : Addr} {o o0 : HO} {ws : List V} (ha : H a = some o0) (ho : Plain o0) (h : SqT K H b ws) : SqT K (upd H a o) b ws := by
  rcases h with (q | ⟨u, q⟩) | q
  · exact .inl (.inl (by rw [upd_ne (ne_of q ha (ho.1 _))]; exact q))
  · exact .inl (.inr ⟨u, by rw [upd_ne (ne_of q ha (ho.2.1 _ _))]; exact q⟩)
  · exact .inr q
theorem sqF_upd {b : Addr} {o o0 : HO} {ws : List V} (ha : H a = some o0) (ho : Plain o0) (h : SqF K H b ws) : SqF K (upd H a o) b ws := by
  rcases h with ⟨u, q⟩ | q
  · exact .inl ⟨u, by rw [upd_ne (ne_of q ha (ho.2.2 _ _))]; exact q⟩
  · exact .inr q
theorem unlock (m : RepM K ι H M) (ha : ι[n]? = some a) (h1 : H a = some (.dK vs)) (rs : RepKs K ι H kvs vs) (stL : Step K ι H ι (upd H a (.frz od (.dK vs)))) (st : Step K ι (upd H a (.frz od (.dK vs))) ι2 H2) (m2 : RepM K ι2 H2 M2) :
    H2 a = some (.frz od (.dK vs)) ∧ Step K ι H ι2 (upd H2 a (.dK vs)) ∧ RepM K ι2 (upd H2 a (.dK vs)) (M2.set n (.dic kvs)) ∧ (∀ d v, Rep K ι2 H2 d v → Rep K ι2 (upd H2 a (.dK vs)) d v) := by
  have hl : H2 a = some (.frz od (.dK vs)) := st.lock _ _ _ upd_same
  have stF : Step K ι H ι2 (upd H2 a (.dK vs)) := by
    obtain ⟨t, e, f⟩ := st.pre
    refine ⟨⟨t, e, fun x hx => ?_⟩, fun x o hx hn => ?_, fun x hx => ?_, fun x ws hx => sqT_upd hl plain_frd (st.tups _ _ (stL.tups _ _ hx)), fun x ws hx => sqF_upd hl plain_frd (st.frzs _ _ (stL.frzs _ _ hx)), fun x o u hx => ?_⟩
    · exact stL.dom x (f x hx)
    · have hne : x ≠ a := fun z => hn (z ▸ List.mem_of_getElem? ha)
      rw [upd_ne hne]
      exact st.fr x o (by rw [upd_ne hne]; exact hx) hn
    · by_cases hne : x = a
      · subst hne; rw [upd_same] at hx; cases hx
      · rw [upd_ne hne] at hx
        exact stL.dom x (st.dom x hx)
    · have hne : x ≠ a := fun z => by rw [z, h1] at hx; cases hx
      rw [upd_ne hne]
      exact st.lock _ _ _ (stL.lock _ _ _ hx)
  have ha2 := st.get ha
  have hn : n < M2.length := by rw [← m2.len]; exact (List.getElem?_eq_some_iff.mp ha2).1
  refine ⟨hl, stF, ⟨by simp [m2.len], m2.nd, fun k c hk => ?_⟩, fun d v hr => Rep.upd hl plain_frd d v hr⟩
  by_cases hkn : k = n
  · subst hkn
    rw [List.getElem?_set_self hn] at hk
    cases hk
    exact ⟨a, ha2, vs, upd_same, rs.mono stF⟩
  · rw [List.getElem?_set_ne (fun z => hkn z.symm)] at hk
    obtain ⟨b, e, r⟩ := m2.at_ k c hk
    have hb : b ≠ a := fun z => by
      rw [z] at e
      obtain ⟨g1, g2⟩ := List.getElem?_eq_some_iff.mp e
      obtain ⟨g3, g4⟩ := List.getElem?_eq_some_iff.mp ha2
      exact hkn ((List.getElem_inj m2.nd).mp (g2.trans g4.symm))
    refine ⟨b, e, ?_⟩
    cases c with
    | lst ds => obtain ⟨ws, q, r'⟩ := r; exact ⟨ws, by rw [upd_ne hb]; exact q, Reps.upd hl plain_frd ds ws r'⟩
    | dic ds => obtain ⟨ws, q, r'⟩ := r; exact ⟨ws, by rw [upd_ne hb]; exact q, RepKs.upd hl plain_frd ds ws r'⟩
    | frd ds => obtain ⟨o, ws, q, r'⟩ := r; exact ⟨o, ws, by rw [upd_ne hb]; exact q, RepKs.upd hl plain_frd ds ws r'⟩
/-- what of a dict is walked -/
def Iw : Wk → Addr → Obj → List (Key × V) → It
  | .keys => Itk
  | .vals => Itd
  | .items => Iti
def iW : Wk → TE → TI
  | .keys => iKeys
  | .vals => iVals
  | .items => iItems
theorem iW_of {w : Wk} {i : Nat} {σ : L2.St} {R : It → Hp → Prop} (h : H a = some (.frz od (.dK vs))) (e : σ[i]? = some (some (.ref a))) (q : R (Iw w a od vs) H) : iW w (tVar i) σ H R := by
  cases w with
  | keys => exact ⟨.ref a, e, a, od, rfl, .inl ⟨vs, h, q⟩⟩
  | vals => exact ⟨.ref a, e, a, od, vs, rfl, h, q⟩
  | items => exact ⟨.ref a, e, a, od, vs, rfl, h, q⟩
def Yw (vs : List (Key × V)) : Wk → Nat → Hp → V → Hp → Prop
  | .keys => fun i H x H' => H' = H ∧ ∃ k v, vs[i]? = some (k, v) ∧ x = kV k
  | .vals => fun i H x H' => H' = H ∧ ∃ k, vs[i]? = some (k, x)
  | .items => YPair (fun i => vs[i]?.map fun kv => kV kv.1) (fun i => vs[i]?.map Prod.snd)
theorem walk_w {w : Wk} : Walk (Iw w a od vs) vs.length (fun H => H a = some (.frz od (.dK vs))) (Yw vs w) := by
  cases w with
  | keys => exact walk_keys
  | vals => exact walk_values
  | items => exact walk_items
theorem repKs_get : ∀ {kvs : List (Key × D)} {vs : List (Key × V)} {i : Nat} {p : Key × D}, RepKs K ι H kvs vs → kvs[i]? = some p → ∃ v, vs[i]? = some (p.1, v) ∧ Rep K ι H p.2 v
  | [], vs, i, p, h, e => by simp at e
  | q :: r, vs, i, p, h, e => by
    simp only [RepKs] at h
    obtain ⟨v, t, rfl, h1, h2⟩ := h
    cases i with
    | zero => simp at e; subst e; exact ⟨v, by simp, h1⟩
    | succ i =>
      obtain ⟨w, g1, g2⟩ := repKs_get (i := i) h2 (by simpa using e)
      exact ⟨w, by simpa using g1, g2⟩
theorem wkD_len {w : Wk} : (wkD w kvs).length = kvs.length := by cases w <;> simp [wkD]
theorem keyD_rep {k : Key} : Rep K ι H (keyD k) (kV k) := by
  cases k with
  | inl i => exact .int
  | inr s => exact .str
theorem yw_ok {w : Wk} {i : Nat} {x : V} {H' : Hp} {d : D} (m : RepM K ι H M) (rs : RepKs K ι H kvs vs) (y : Yw vs w i H x H') (e : (wkD w kvs)[i]? = some d) : Step K ι H ι H' ∧ RepM K ι H' M ∧ Rep K ι H' d x := by
  cases w with
  | keys =>
    simp only [wkD, List.getElem?_map] at e
    cases e1 : kvs[i]? with
    | none => rw [e1] at e; cases e
    | some p =>
      rw [e1] at e; cases e
      obtain ⟨v, g1, _⟩ := repKs_get rs e1
      obtain ⟨rfl, k, v', g2, rfl⟩ := y
      rw [g1] at g2; cases g2
      exact ⟨.refl, m, keyD_rep⟩
  | vals =>
    simp only [wkD, List.getElem?_map] at e
    cases e1 : kvs[i]? with
    | none => rw [e1] at e; cases e
    | some p =>
      rw [e1] at e; cases e
      obtain ⟨v, g1, g3⟩ := repKs_get rs e1
      obtain ⟨rfl, k, g2⟩ := y
      rw [g1] at g2; cases g2
      exact ⟨.refl, m, g3⟩
  | items =>
    simp only [wkD, List.getElem?_map] at e
    cases e1 : kvs[i]? with
    | none => rw [e1] at e; cases e
    | some p =>
      rw [e1] at e; cases e
      obtain ⟨v, g1, g3⟩ := repKs_get rs e1
      refine ypair (p := fun i => vs[i]?.map fun (kv : Key × V) => kV kv.1) (q := fun i => vs[i]?.map Prod.snd) (i := i) m (fun u hu => ?_) (fun u hu => ?_) (show YPair _ _ _ _ _ _ from y)
      · rw [g1] at hu; cases hu; exact keyD_rep
      · rw [g1] at hu; cases hu; exact g3
end
section
variable {X : Cx} {ex : Exs} {W : WX} {pos : Pos} {fs : Rho → Mem → R F}
def semFord (w : Wk) (t : Tg) (i : Nat) (fs : Rho → Mem → R F) : Rho → Mem → R F := fun ρ M => match ρ[i]? with
  | some (some (.cell n)) => (match M[n]? with
    | some (.dic kvs) => unlS n kvs (forL (asgT t) fs [] (wkD w kvs) ρ (M.set n (.frd kvs)))
    | _ => .bad)
  | _ => .bad
theorem chk_nil {M : Mem} : chk M [] = true := rfl
theorem s_ford {tg iter : Expr} {body : List Stmt} {t : Tg} {w : Wk} {i : Nat} (hp : PassesOwn (model X.prog X.w) X.A X.env X.xe) (hc : X.calm = true) (hi : PI X tg iter (iW w (tVar i))) (hg : PG X tg (gT X.K t)) (hb : PSsx X ex W body fs) (hs : ∀ x, foldedSetIterable iter X.env x = pure x) :
    PSx X ex W (.For tg iter body [] pos) (semFord w t i fs) := by
  refine (ps_lock (ps_for hp hc hi hg hb hs)).imp ?_
  rintro Dn σ H ⟨ι, ρ, M, m, r, p⟩
  unfold semFord at p
  split at p
  · rename_i n hρ
    split at p
    · rename_i kvs hM
      obtain ⟨v, ev, rv⟩ := r.at_ i _ hρ
      obtain ⟨a, rfl, ha⟩ := rep_cell rv
      obtain ⟨vs, h1, rs⟩ := cell_at m ha hM
      refine ⟨a, .dK vs, h1, trivial, fun od => ?_⟩
      have stL : Step X.K ι H ι (upd H a (.frz od (.dK vs))) := step_put ha h1 ⟨(fun _ z => nomatch z), (fun _ _ z => nomatch z)⟩
      have mL : RepM X.K ι (upd H a (.frz od (.dK vs))) (M.set n (.frd kvs)) := m.put ha stL ⟨od, vs, upd_same, rs.mono stL⟩
      have fin : ∀ {ι2 : List Addr} {H2 : Hp} {M2 : Mem}, Step X.K ι (upd H a (.frz od (.dK vs))) ι2 H2 → RepM X.K ι2 H2 M2 → _ := fun {ι2 H2 M2} st2 m2 => unlock (M2 := M2) m ha h1 rs stL st2 m2
      refine iW_of upd_same ev ?_
      have len : vs.length = (wkD w kvs).length := by rw [wkD_len]; exact rs.length.symm
      refine for_it walk_w (fun j σ' H' => ∃ ι' ρ' M', Step X.K ι (upd H a (.frz od (.dK vs))) ι' H' ∧ RepM X.K ι' H' M' ∧ RepRho X.K ι' H' ρ' σ' ∧ PostS X.K ex W ι H (unlS n kvs (forL (asgT t) fs [] ((wkD w kvs).drop j) ρ' M')) Dn) ?_ ?_ ?_ ?_
      · exact ⟨ι, ρ, _, .refl, mL, r.mono stL, p⟩
      · rintro j σ' H' hj ⟨ι', ρ', M', st, m', rr, pc⟩
        exact (fin st m').1
      · rintro j x σ' H' H'' hj ⟨ι', ρ', M', st, m', rr, pc⟩ hy
        have hlt : j < (wkD w kvs).length := by rw [← len]; exact hj
        have hd : (wkD w kvs).drop j = (wkD w kvs)[j] :: (wkD w kvs).drop (j + 1) := List.drop_eq_getElem_cons hlt
        rw [hd] at pc
        simp only [forL, chk_nil, if_true] at pc
        obtain ⟨sy, my, ry⟩ := yw_ok m' ((rs.mono stL).mono st) hy (List.getElem?_eq_getElem hlt)
        cases ea : asgT t (wkD w kvs)[j] ρ' with
        | none => rw [ea] at pc; exact pc.elim
        | some ρ2 =>
          rw [ea] at pc
          simp only at pc
          refine ⟨ι', (wkD w kvs)[j], ρ', ρ2, ry, rr.mono sy, ea, fun σ2 rr2 _ => ⟨ι', ρ2, M', my, rr2, ?_⟩⟩
          cases hbd : fs ρ2 M' with
          | err c as M2 => rw [hbd] at pc; exact pc.elim
          | bad => rw [hbd] at pc; exact pc.elim
          | ok f M2 =>
            rw [hbd] at pc
            cases f with
            | nx ρ3 => exact fun ι3 H3 σ3 st3 m3 rr3 => ⟨ι3, ρ3, M2, (st.trans sy).trans st3, m3, rr3, pc⟩
            | ct ρ3 => exact fun ι3 H3 σ3 st3 m3 rr3 => ⟨ι3, ρ3, M2, (st.trans sy).trans st3, m3, rr3, pc⟩
            | bk ρ3 =>
              intro ι3 H3 σ3 st3 m3 rr3
              obtain ⟨k1, k2, k3, k4⟩ := fin ((st.trans sy).trans st3) m3
              exact ⟨k1, pc ι3 _ σ3 k2 k3 ⟨rr3.len, fun q d hq => let ⟨u, e1, e2⟩ := rr3.at_ q d hq; ⟨u, e1, k4 _ _ e2⟩⟩⟩
            | rt d =>
              intro ι3 H3 u st3 m3 ru
              obtain ⟨k1, k2, k3, k4⟩ := fin ((st.trans sy).trans st3) m3
              exact ⟨k1, pc ι3 _ u k2 k3 (k4 _ _ ru)⟩
            | xc c as ρ3 => exact pc.elim
      · rintro σ' H' ⟨ι', ρ', M', st, m', rr, pc⟩
        rw [List.drop_of_length_le (by rw [← len]; exact Nat.le_refl _)] at pc
        simp only [forL, chk_nil, if_true] at pc
        obtain ⟨k1, k2, k3, k4⟩ := fin st m'
        exact ⟨k1, pc ι' _ σ' k2 k3 ⟨rr.len, fun q d hq => let ⟨u, e1, e2⟩ := rr.at_ q d hq; ⟨u, e1, k4 _ _ e2⟩⟩⟩
    · exact p.elim
  · exact p.elim
end
end J

namespace J
open PySem PySem.Spec
open PyProof.Rows L2
/-! ## a, b = c, d -/
def namesOf (sc : Scope) (ts : List Expr) : List Str := ts.filterMap fun
  | .Name id pos => if sc.names.lookup id == some .local && pos.line == (ts.head?.map (·.pos.line)).getD 0 then some id else none
  | _ => none
def swNone (sc : Scope) (ts vs : List Expr) : Bool :=
  (!(ts.length == 2 || ts.length == 3) || vs.length != ts.length) || (vs.any fun | .Starred .. => true | _ => false) || ((namesOf sc ts).length != ts.length || (namesOf sc ts).eraseDups.length != (namesOf sc ts).length) || vs.all (foldedForSure 8)
def swSome (sc : Scope) (ts vs : List Expr) : Bool :=
  !(!(ts.length == 2 || ts.length == 3) || vs.length != ts.length) && !(vs.any fun | .Starred .. => true | _ => false) && !((namesOf sc ts).length != ts.length || (namesOf sc ts).eraseDups.length != (namesOf sc ts).length) && !vs.all (foldedForSure 8) && !vs.all (constantsAlone 8)
theorem blockKind_fn {env : PySem.Env} (hk : env.scope.kind = .function) : env.blockKind = .function := by unfold Env.blockKind; rw [hk]; rfl
def starB (vs : List Expr) : Bool := vs.any fun | .Starred .. => true | _ => false
theorem sw_eq {env : PySem.Env} (hk : env.scope.kind = .function) {ts vs : List Expr} {k k2 : Nat} {p p2 : Pos} : swappedStores [.Tuple ts k p] (.Tuple vs k2 p2) env =
    (if (!(ts.length == 2 || ts.length == 3) || vs.length != ts.length) = true then pure none else if starB vs = true then pure none else
      if ((namesOf env.scope ts).length != ts.length || (namesOf env.scope ts).eraseDups.length != (namesOf env.scope ts).length) = true then pure none else if vs.all (foldedForSure 8) = true then pure none else
      if vs.all (constantsAlone 8) = true then (do unsupported "assign.tuple-of-constant-expressions:order-of-the-stores"; pure (some (namesOf env.scope ts))) else pure (some (namesOf env.scope ts))) := by
  have hb := blockKind_fn hk
  unfold swappedStores
  simp only [hb, bne_self_eq_false, Bool.or_false]
  rfl
theorem sw_none {env : PySem.Env} {sc : Scope} (hk : env.scope.kind = .function) (hs : env.scope = sc) {ts vs : List Expr} {k k2 : Nat} {p p2 : Pos} (h : swNone sc ts vs = true) : swappedStores [.Tuple ts k p] (.Tuple vs k2 p2) env = pure none := by
  rw [sw_eq hk, hs]
  have h' : ((!(ts.length == 2 || ts.length == 3) || vs.length != ts.length) || starB vs || ((namesOf sc ts).length != ts.length || (namesOf sc ts).eraseDups.length != (namesOf sc ts).length) || vs.all (foldedForSure 8)) = true := h
  split
  · rfl
  · rename_i c1
    split
    · rfl
    · rename_i c2
      split
      · rfl
      · rename_i c3
        split
        · rfl
        · rename_i c4
          rw [Bool.not_eq_true] at c1 c2 c3 c4
          rw [c1, c2, c3, c4] at h'
          cases h'
theorem sw_some {env : PySem.Env} {sc : Scope} (hk : env.scope.kind = .function) (hs : env.scope = sc) {ts vs : List Expr} {k k2 : Nat} {p p2 : Pos} (h : swSome sc ts vs = true) : swappedStores [.Tuple ts k p] (.Tuple vs k2 p2) env = pure (some (namesOf sc ts)) := by
  rw [sw_eq hk, hs]
  have h' : (!(!(ts.length == 2 || ts.length == 3) || vs.length != ts.length) && !starB vs && !((namesOf sc ts).length != ts.length || (namesOf sc ts).eraseDups.length != (namesOf sc ts).length) && !vs.all (foldedForSure 8) && !vs.all (constantsAlone 8)) = true := h
  simp only [Bool.and_eq_true, Bool.not_eq_true'] at h'
  obtain ⟨⟨⟨⟨h1, h2⟩, h3⟩, h4⟩, h5⟩ := h'
  rw [if_neg (by rw [h1]; exact Bool.false_ne_true), if_neg (by rw [h2]; exact Bool.false_ne_true), if_neg (by rw [h3]; exact Bool.false_ne_true), if_neg (by rw [h4]; exact Bool.false_ne_true), if_neg (by rw [h5]; exact Bool.false_ne_true)]
def notTup : Expr → Bool
  | .Tuple _ _ _ => false
  | _ => true
def notComp : Expr → Bool
  | .ListComp _ _ _ _ => false
  | .SetComp _ _ _ _ => false
  | .DictComp _ _ _ _ _ => false
  | _ => true
theorem sw_notTup {env : PySem.Env} {t e : Expr} (h : notTup e = true) : swappedStores [t] e env = pure none := by
  cases e <;> first | (cases h; done) | (cases t <;> rfl)
theorem sw_sub {env : PySem.Env} {o i e : Expr} {p : Pos} : swappedStores [.Subscript o i p] e env = pure none := by
  cases e <;> rfl
theorem swaps_no {env : PySem.Env} {e : Expr} {t : Option Expr} {l : Nat} (h : notComp e = true) : swapsWith e t l env = pure false := by
  cases e <;> first | (cases h; done) | rfl
theorem swaps_sub {env : PySem.Env} {e o i : Expr} {p : Pos} {l : Nat} : swapsWithSole [.Subscript o i p] e l env = pure false := by
  cases e <;> rfl
theorem swaps_tup {env : PySem.Env} {e : Expr} {es : List Expr} {k : Nat} {p : Pos} {l : Nat} : swapsWithSole [.Tuple es k p] e l env = pure false := by
  cases e <;> rfl
def swB (sc : Scope) (y : Str) (py pos : Pos) (scope : Scope) : Bool := sc.names.lookup y == some .local && py.line == pos.line && !(scope.names.any fun (n, k) => n == y && (k == .local || k == .cell))
theorem swaps_comp {env : PySem.Env} {sc : Scope} {elt : Expr} {gs : List Comprehension} {scope : Scope} {pos py : Pos} {y : Str} {l : Nat} (hk : env.scope.kind = .function) (hs : env.scope = sc) : swapsWith (.ListComp elt gs scope pos) (some (.Name y py)) l env = pure (swB sc y py pos scope) := by
  have hb := blockKind_fn hk
  unfold swapsWith
  simp only [hb]
  subst hs
  rfl
section
variable {X : Cx} {ex : Exs} {W : WX} {a b c : Expr} {fs : Rho → Mem → R (List D)} {pos px py pz kt : Pos} {x y z : Str} {i j l : Nat}
def semTup (fs : Rho → Mem → R (List D)) : Rho → Mem → R D := fun ρ M => (fs ρ M).bind fun ds M => if ds.length ≤ big then .ok (.tup ds) M else .bad
theorem par_of {K : PySem.W.Frag} {t : Tg} {Dn : Ends} {σ : L2.St} {H : Hp} (p : tS K ex W (semAsg t (semTup fs)) Dn σ H) : tA K ex W fs σ H fun vs H1 => ∃ ι ρ M ds, RepM K ι H1 M ∧ RepRho K ι H1 ρ σ ∧ Reps K ι H1 ds vs ∧ PostS K ex W ι H1 (match asgT t (.tup ds) ρ with | some ρ => .ok (.nx ρ) M | none => .bad) Dn := by
  obtain ⟨ι, ρ, M, m, r, p⟩ := p
  have p' : PostS K ex W ι H (bindS ρ (fs ρ M) fun ds M => if ds.length ≤ big then (match asgT t (.tup ds) ρ with | some ρ => .ok (.nx ρ) M | none => .bad) else .bad) Dn := by
    have e : semAsg t (semTup fs) ρ M = (bindS ρ (fs ρ M) fun ds M => if ds.length ≤ big then (match asgT t (.tup ds) ρ with | some ρ => .ok (.nx ρ) M | none => .bad) else .bad) := by
      unfold semAsg semTup
      cases fs ρ M with
      | ok ds M1 =>
        by_cases hz : ds.length ≤ big
        · simp only [R.bind, bindS, hz, if_true]
          try rfl
        · simp only [R.bind, bindS, hz, if_false]
      | err c as M1 => rfl
      | bad => rfl
    rw [← e]; exact p
  refine ⟨ι, ρ, M, m, r, (p'.bind r).imp ?_⟩
  rintro vs H1 ⟨ds, ι1, M1, st, m1, rv, p1⟩
  split at p1
  · exact ⟨ι1, ρ, M1, ds, m1, r.mono st, rv, p1⟩
  · exact p1.elim
theorem s_par2 {k2 k3 : Nat} {pt pt2 : Pos} (hc : X.calm = true) (hN : X.N.Nodup) (hi : X.N[i]? = some x) (hj : X.N[j]? = some y) (hij : i ≠ j) (hx : X.env.scope.names.lookup x = some .local) (hy : X.env.scope.names.lookup y = some .local) (ha : PAx X ex W [a, b] fs)
    (hw : swappedStores [.Tuple [.Name x px, .Name y py] k3 pt] (.Tuple [a, b] k2 pt2) X.env = pure (some [x, y])) : PSx X ex W (.Assign [.Tuple [.Name x px, .Name y py] k3 pt] (.Tuple [a, b] k2 pt2) pos) (semAsg (.tp [.nm i, .nm j]) (semTup fs)) := by
  refine (ps_par hc hN hi hj hij hx hy ha hw).imp ?_
  rintro Dn σ H p
  obtain ⟨ι, ρ, M, m, r, p⟩ := par_of p
  refine ⟨ι, ρ, M, m, r, p.imp ?_⟩
  rintro vs H1 ⟨ι1, ρ1, M1, ds, m1, r1, rv, p1⟩
  match ds, rv, p1 with
  | [d, e], rv, p1 =>
    obtain ⟨v, w, rfl, rd, re⟩ := reps2 rv
    exact ⟨v, w, rfl, p1 ι1 H1 _ .refl m1 ((r1.set rd).set re)⟩
  | [], rv, p1 => exact p1.elim
  | [_], rv, p1 => exact p1.elim
  | _ :: _ :: _ :: _, rv, p1 => exact p1.elim
theorem s_par3 {k2 k3 : Nat} {pt pt2 : Pos} (hc : X.calm = true) (hN : X.N.Nodup) (hi : X.N[i]? = some x) (hj : X.N[j]? = some y) (hl : X.N[l]? = some z) (hij : i ≠ j) (hil : i ≠ l) (hjl : j ≠ l) (hx : X.env.scope.names.lookup x = some .local) (hy : X.env.scope.names.lookup y = some .local) (hz : X.env.scope.names.lookup z = some .local) (ha : PAx X ex W [a, b, c] fs)
    (hw : swappedStores [.Tuple [.Name x px, .Name y py, .Name z pz] k3 pt] (.Tuple [a, b, c] k2 pt2) X.env = pure (some [x, y, z])) : PSx X ex W (.Assign [.Tuple [.Name x px, .Name y py, .Name z pz] k3 pt] (.Tuple [a, b, c] k2 pt2) pos) (semAsg (.tp [.nm i, .nm j, .nm l]) (semTup fs)) := by
  refine (ps_par3 hc hN hi hj hl hij hil hjl hx hy hz ha hw).imp ?_
  rintro Dn σ H p
  obtain ⟨ι, ρ, M, m, r, p⟩ := par_of p
  refine ⟨ι, ρ, M, m, r, p.imp ?_⟩
  rintro vs H1 ⟨ι1, ρ1, M1, ds, m1, r1, rv, p1⟩
  match ds, rv, p1 with
  | [d, e, f], rv, p1 =>
    obtain ⟨v, t, rfl, rd, rv⟩ := rv.inv_cons
    obtain ⟨w, u, rfl, re, rf⟩ := reps2 rv
    exact ⟨v, w, u, rfl, p1 ι1 H1 _ .refl m1 (((r1.set rd).set re).set rf)⟩
  | [], rv, p1 => exact p1.elim
  | [_], rv, p1 => exact p1.elim
  | [_, _], rv, p1 => exact p1.elim
  | _ :: _ :: _ :: _ :: _, rv, p1 => exact p1.elim
theorem s_setLc {elt tg iter : Expr} {ifs : List Expr} {scope : Scope} {own : List (Str × Nat)} {lp spos : Pos} {t : Tg} {fI : Rho → Mem → R Its} {ft : Rho → Mem → R Bool} {fe : Rho → Mem → R D} (hc : X.calm = true) (hN : X.N.Nodup) (hy : X.N[i]? = some y) (hyl : X.env.scope.names.lookup y = some .local)
    (hsw : swapsWith (.ListComp elt [⟨tg, iter, ifs, 0⟩] scope lp) (some (.Name y py)) spos.line X.env = pure true) (hi : PIx X ex W tg iter fI) (ok : BlkOk X.N X.env.scope scope own)
    (hg : ∀ (s : Shared) (H : Hp) (C : Addr) (cl : List (Str × Addr)) (fp : List Addr), PG (X.blk s H scope (compEnvC scope cl C X.env) fp) tg (gT X.K t)) (ht : ∀ (s : Shared) (H : Hp) (C : Addr) (cl : List (Str × Addr)) (fp : List Addr), PTs (X.blk s H scope (compEnvC scope cl C X.env) fp) ifs (tT X.K ex W0 ft))
    (he : ∀ (s : Shared) (H : Hp) (C : Addr) (cl : List (Str × Addr)) (fp : List Addr), PEx (X.blk s H scope (compEnvC scope cl C X.env) fp) ex W0 elt fe) (hsub : ∀ i ∈ slotsT t, i ∈ own.map (·.2)) (hs : ∀ x, foldedSetIterable iter X.env x = pure x) :
    PSx X ex W (.Assign [.Name y py] (.ListComp elt [⟨tg, iter, ifs, 0⟩] scope lp) spos) (semAsg (.nm i) (semComp (own.map (·.2)) t fI ft fe)) :=
  (ps_setLc (te := tE X.K ex W0 fe) hc hN hy hyl hsw hi ok hg ht he hs).imp fun _ _ _ p => rd_set (fun _ _ _ z => rd_comp hsub z) p
end
end J

namespace J
open PySem PySem.Spec
open PyProof.Rows L2
/-! ## the check of statements -/
section
variable (N : List Str) (gb : Str → GB)
def locOnly (sc : Scope) (x : Str) : Bool := sc.names.lookup x == some .local
def vNm (sc : Scope) (i : Nat) (x : Str) : Bool := decide (N[i]? = some x) && visB sc x && nmB x
def ckWk (sc : Scope) (w : Wk) (i : Nat) (tg e : Expr) : Bool := match w with
  | .keys => (match e with
    | .Name x _ => vNm N sc i x
    | _ => false)
  | .vals => (match e with
    | .Call (.Attribute (.Name x _) m ap) [] [] p => decide (m = ("values" : Str)) && (ap.endLine == p.line) && vNm N sc i x
    | _ => false)
  | .items => (match e with
    | .Call (.Attribute (.Name x _) m ap) [] [] p => decide (m = ("items" : Str)) && (ap.endLine == p.line) && isTupE tg && vNm N sc i x
    | _ => false)
def ckAsg (n : Nat) (sc : Scope) (t : Tg) (ir : E) (tg e : Expr) (pos : Pos) : Bool := match tg with
  | .Name x py => (match t with
    | .nm i => decide (N[i]? = some x) && locB sc (fun _ => true) x && (match e with
      | .ListComp elt [⟨ctg, iter, ifs, 0⟩] scope lp => if swB sc x py lp scope then locOnly sc x && ckE N gb (n + 1) sc (fun _ => true) ir e else ckE N gb (n + 1) sc (fun _ => true) ir e
      | e => notComp e && ckE N gb (n + 1) sc (fun _ => true) ir e)
    | _ => false)
  | .Tuple ts k p => (match e with
    | .Tuple vs k2 p2 => (if swNone sc ts vs then ckT N sc (fun _ => true) n t tg && ckE N gb (n + 1) sc (fun _ => true) ir e
      else swSome sc ts vs && (match ir with
        | .tup es => all2 (ckA (ckE N gb n sc (fun _ => true))) es vs && (match ts, t with
          | [.Name x _, .Name y _], .tp [.nm i, .nm j] => decide (namesOf sc ts = [x, y]) && decide (N[i]? = some x) && decide (N[j]? = some y) && decide (i ≠ j) && locOnly sc x && locOnly sc y && decide (vs.length = 2)
          | [.Name x _, .Name y _, .Name z _], .tp [.nm i, .nm j, .nm l] => decide (namesOf sc ts = [x, y, z]) && decide (N[i]? = some x) && decide (N[j]? = some y) && decide (N[l]? = some z) && decide (i ≠ j) && decide (i ≠ l) && decide (j ≠ l) && locOnly sc x && locOnly sc y && locOnly sc z && decide (vs.length = 3)
          | _, _ => false)
        | _ => false))
    | e => notTup e && ckT N sc (fun _ => true) n t tg && ckE N gb (n + 1) sc (fun _ => true) ir e)
  | _ => false
def ckS : Nat → Scope → S → Stmt → Bool
  | 0, _, _, _ => false
  | n + 1, sc, ir, s => match ir with
    | .asg t e => (match s with
      | .Assign [tg] v pos => ckAsg N gb n sc t e tg v pos
      | _ => false)
    | .setx o i e => (match s with
      | .Assign [.Subscript x y _] v _ => notSl y && ckE N gb n sc (fun _ => true) e v && ckE N gb n sc (fun _ => true) o x && ckE N gb n sc (fun _ => true) i y
      | _ => false)
    | .aug i o e => (match s with
      | .AugAssign (.Name x _) op v _ => decide (N[i]? = some x) && locB sc (fun _ => true) x && opB op o && ckE N gb n sc (fun _ => true) e v
      | _ => false)
    | .exp e => (match s with
      | .Expr v _ => notComp v && ckE N gb n sc (fun _ => true) e v
      | _ => false)
    | .ret e => (match s with
      | .Return (some v) _ => ckE N gb n sc (fun _ => true) e v
      | _ => false)
    | .retn => (match s with
      | .Return none _ => true
      | _ => false)
    | .iff c a b => (match s with
      | .If x p q _ => ckE N gb n sc (fun _ => true) c x && all2 (ckS n sc) a p && all2 (ckS n sc) b q
      | _ => false)
    | .forr t it b => (match s with
      | .For tg iter body [] _ => ckT N sc (fun _ => true) n t tg && notSet iter && ckI N gb n sc (fun _ => true) it tg iter && all2 (ckS n sc) b body
      | _ => false)
    | .whil c b => (match s with
      | .While x body [] _ => ckE N gb n sc (fun _ => true) c x && all2 (ckS n sc) b body
      | _ => false)
    | .brk => (match s with
      | .Break _ => true
      | _ => false)
    | .cont => (match s with
      | .Continue _ => true
      | _ => false)
    | .pass => (match s with
      | .Pass _ => true
      | _ => false)
    | .ford w t i b => (match s with
      | .For tg iter body [] _ => ckT N sc (fun _ => true) n t tg && notSet iter && ckWk N sc w i tg iter && all2 (ckS n sc) b body
      | _ => false)
    | .unk => true
end
section
variable {X : Cx} {W : WX} {ex : Exs} {call : Nat → List D → Mem → R D} {con : Nat → Option D} {gb : Str → GB} {k : Nat} {N : List Str} {sc : Scope}
theorem semS {s : Stmt} {f g : Rho → Mem → R F} (p : PSx X ex W s f) (h : ∀ ρ M, f ρ M = g ρ M) : PSx X ex W s g := by
  have : f = g := funext fun ρ => funext fun M => h ρ M
  rw [← this]; exact p
theorem semSs {s : List Stmt} {f g : Rho → Mem → R F} (p : PSsx X ex W s f) (h : ∀ ρ M, f ρ M = g ρ M) : PSsx X ex W s g := by
  have : f = g := funext fun ρ => funext fun M => h ρ M
  rw [← this]; exact p
theorem ckSs_ok {p : S → Stmt → Bool} (hp : ∀ ir s, p ir s = true → PSx X ex W s (exS call con ir)) : ∀ (irs : List S) (ss : List Stmt), all2 p irs ss = true → PSsx X ex W ss (exSs call con irs)
  | [], [], _ => semSs s_nil fun _ _ => rfl
  | [], _ :: _, h => by cases h
  | _ :: _, [], h => by cases h
  | e :: es, x :: xs, h => by
    simp only [all2, Bool.and_eq_true] at h
    exact semSs (s_cons (hp e x h.1) (ckSs_ok hp es xs h.2)) fun ρ M => rfl
theorem ckWk_ok (g : Gd X W ex call con gb k) (hN : X.N = N) (hs : X.env.scope = sc) {w : Wk} {i : Nat} {tg e : Expr} (h : ckWk N sc w i tg e = true) : PI X tg e (iW w (tVar i)) := by
  have vn : ∀ {x : Str} {q : Pos}, vNm N sc i x = true → PE X (.Name x q) (tVar i) := by
    intro x q h
    unfold vNm at h
    simp only [Bool.and_eq_true, decide_eq_true_eq] at h
    have v := vis_of h.1.2
    rw [← hs] at v
    exact pe_var (by rw [hN]; exact h.1.1) v (nm_of h.2).1 (nm_of h.2).2.1
  unfold ckWk at h
  split at h
  · split at h
    · exact pi_keys (vn h)
    · cases h
  · split at h
    · simp only [Bool.and_eq_true, decide_eq_true_eq] at h
      obtain ⟨⟨h1, h2⟩, h3⟩ := h
      subst h1
      exact pi_values (vn h3) (base_of rfl) h2
    · cases h
  · split at h
    · simp only [Bool.and_eq_true, decide_eq_true_eq] at h
      obtain ⟨⟨⟨h1, h2⟩, h3⟩, h4⟩ := h
      subst h1
      cases tg <;> first | (cases h3; done) | skip
      exact pi_items (vn h4) (base_of rfl) h2
    · cases h
theorem locOnly_of {x : Str} (h : locOnly sc x = true) : sc.names.lookup x = some .local := by
  unfold locOnly at h
  exact beq_iff_eq.mp h
theorem ckAsg_ok {n : Nat} (g : Gd X W ex call con gb k) (hN : X.N = N) (hs : X.env.scope = sc) (hf : ∀ x, X.fn x = true) (hk : X.env.scope.kind = .function) (t : Tg) (ir : E) (tg e : Expr) (pos : Pos) (h : ckAsg N gb n sc t ir tg e pos = true) : PSx X ex W (.Assign [tg] e pos) (exS call con (.asg t ir)) := by
  have EX := fun n ir e z => ((ok_all (N := N) (ex := ex) (call := call) (con := con) (gb := gb) (k := k) n).e X W sc (fun _ => true) g hN hs hf ir e z).1
  unfold ckAsg at h
  split at h
  · rename_i x py
    split at h
    · rename_i i
      simp only [Bool.and_eq_true, decide_eq_true_eq] at h
      obtain ⟨⟨h1, h2⟩, h3⟩ := h
      have hi : X.N[i]? = some x := by rw [hN]; exact h1
      have hl := loc_of h2
      rw [← hs] at hl
      split at h3
      · rename_i elt ctg iter ifs scope lp
        have gen : ckE N gb (n + 1) sc (fun _ => true) ir (.ListComp elt [⟨ctg, iter, ifs, 0⟩] scope lp) = true → swB sc x py lp scope = false → PSx X ex W (.Assign [.Name x py] (.ListComp elt [⟨ctg, iter, ifs, 0⟩] scope lp) pos) (exS call con (.asg (.nm i) ir)) := by
          intro h3 hb
          exact semS (s_set g.nd hi hl.1 (EX _ _ _ h3) (by rw [swaps_comp hk hs, hb]) (.inl (hf x))) fun _ _ => rfl
        by_cases hb : swB sc x py lp scope = true
        · rw [if_pos hb] at h3
          simp only [Bool.and_eq_true] at h3
          obtain ⟨h4, h5⟩ := h3
          have hlo := locOnly_of h4
          rw [← hs] at hlo
          cases ir <;> first | (simp [ckE] at h5; done) | exact ⟨fun pins s σ H Dn I q => by obtain ⟨ι, ρ, M, _, _, q⟩ := q; exact q.elim⟩ | skip
          rename_i own t it cs el
          simp only [ckE, Bool.and_eq_true, decide_eq_true_eq, List.all_eq_true] at h5
          obtain ⟨⟨⟨⟨⟨⟨⟨h1, h2⟩, h3⟩, h4⟩, h5⟩, h6⟩, h7⟩, h8⟩ := h5
          have ih := ok_all (N := N) (ex := ex) (call := call) (con := con) (gb := gb) (k := k) n
          have eo : (own.map fun i => (N.getD i Str.empty, i)).map (·.2) = own := by
            rw [List.map_map]
            exact List.map_id'' (fun _ => rfl) own
          have gb' : ∀ (s : Shared) (H : Hp) (C : Addr) (cl : List (Str × Addr)) (fp : List Addr), Gd (X.blk s H scope (compEnvC scope cl C X.env) fp) W0 ex call con gb k := fun s H C cl fp => g.blk s H scope _ fp
          have sc' : ∀ (s : Shared) (H : Hp) (C : Addr) (cl : List (Str × Addr)) (fp : List Addr), (X.blk s H scope (compEnvC scope cl C X.env) fp).env.scope = relS scope sc := fun s H C cl fp => by rw [← hs]; rfl
          have cnd : ∀ (s : Shared) (H : Hp) (C : Addr) (cl : List (Str × Addr)) (fp : List Addr), PTs (X.blk s H scope (compEnvC scope cl C X.env) fp) ifs (tT X.K ex W0 (evCs call con cs)) := by
            intro s H C cl fp
            match ifs, h6, cs, h7 with
            | [], _, [], _ => exact ts_nil
            | [], _, _ :: _, h7 => cases h7
            | [c], _, [], h7 => cases h7
            | [c], _, [d], h7 =>
              simp only [all2, Bool.and_true] at h7
              have z := (ih.e _ W0 _ _ (gb' s H C cl fp) hN (sc' s H C cl fp) (fun _ => rfl) _ _ h7).2
              have e1 : evCs call con [d] = evT call con d := by
                funext ρ M
                show ((evT call con d ρ M).bind fun k M => if k then R.ok true M else R.ok false M) = _
                cases evT call con d ρ M with
                | ok k M1 => cases k <;> rfl
                | err c as M1 => rfl
                | bad => rfl
              rw [e1]
              exact ts_one z
            | [c], _, _ :: _ :: _, h7 => simp [all2] at h7
            | _ :: _ :: _, h6, _, _ => simp at h6
          have z := s_setLc (py := py) (lp := lp) (spos := pos) (own := own.map fun i => (N.getD i Str.empty, i)) (ft := evCs call con cs) g.calm g.nd hi hlo (by rw [swaps_comp hk hs, hb]) (ih.i X W sc _ g hN hs hf it ctg iter h5) (by rw [hN, hs]; exact blkOk_by h1)
            (fun s H C cl fp => ckT_ok (X := X.blk s H scope (compEnvC scope cl C X.env) fp) (gb' s H C cl fp).calm (gb' s H C cl fp).nd hN (sc' s H C cl fp) (fun _ => rfl) n t ctg h2) cnd
            (fun s H C cl fp => (ih.e _ W0 _ _ (gb' s H C cl fp) hN (sc' s H C cl fp) (fun _ => rfl) el elt h8).1)
            (by rw [eo]; exact fun i hi => by simpa using h3 i hi) (set_of h4)
          rw [eo] at z
          exact semS z fun _ _ => rfl
        · rw [if_neg hb] at h3
          exact gen h3 (by simpa using hb)
      · simp only [Bool.and_eq_true] at h3
        exact semS (s_set g.nd hi hl.1 (EX _ _ _ h3.2) (swaps_no h3.1) (.inl (hf x))) fun _ _ => rfl
    · cases h
  · rename_i ts k0 p
    split at h
    · rename_i vs k2 p2
      by_cases hb : swNone sc ts vs = true
      · rw [if_pos hb] at h
        simp only [Bool.and_eq_true] at h
        exact semS (s_asg (EX _ _ _ h.2) (ckT_ok g.calm g.nd hN hs hf n t _ h.1) swaps_tup (sw_none hk hs hb) rfl) fun _ _ => rfl
      · rw [if_neg hb] at h
        simp only [Bool.and_eq_true] at h
        obtain ⟨h1, h2⟩ := h
        have hw := sw_some (k := k0) (k2 := k2) (p := p) (p2 := p2) hk hs h1
        split at h2
        · rename_i es
          simp only [Bool.and_eq_true] at h2
          have pa : PAx X ex W vs (evEs call con es) := ckA_ok (fun ir e z => ⟨ck_okV z, EX _ ir e z⟩) es vs h2.1
          have h3 := h2.2
          split at h3
          · rename_i x px y py i j
            simp only [Bool.and_eq_true, decide_eq_true_eq] at h3
            obtain ⟨⟨⟨⟨⟨⟨g1, g2⟩, g3⟩, g4⟩, g5⟩, g6⟩, g7⟩ := h3
            match vs, g7, pa, hw with
            | [a, b], _, pa, hw =>
              have e5 := locOnly_of g5
              have e6 := locOnly_of g6
              rw [← hs] at e5 e6
              rw [g1] at hw
              exact semS (s_par2 g.calm g.nd (by rw [hN]; exact g2) (by rw [hN]; exact g3) g4 e5 e6 pa hw) fun _ _ => rfl
          · rename_i x px y py z pz i j l
            simp only [Bool.and_eq_true, decide_eq_true_eq] at h3
            obtain ⟨⟨⟨⟨⟨⟨⟨⟨⟨⟨g1, g2⟩, g3⟩, g4⟩, g5⟩, g6⟩, g7⟩, g8⟩, g9⟩, g10⟩, g11⟩ := h3
            match vs, g11, pa, hw with
            | [a, b, c], _, pa, hw =>
              have e5 := locOnly_of g8
              have e6 := locOnly_of g9
              have e7 := locOnly_of g10
              rw [← hs] at e5 e6 e7
              rw [g1] at hw
              exact semS (s_par3 g.calm g.nd (by rw [hN]; exact g2) (by rw [hN]; exact g3) (by rw [hN]; exact g4) g5 g6 g7 e5 e6 e7 pa hw) fun _ _ => rfl
          · cases h3
        · cases h2
    · simp only [Bool.and_eq_true] at h
      exact semS (s_asg (EX _ _ _ h.2) (ckT_ok g.calm g.nd hN hs hf n t _ h.1.2) swaps_tup (sw_notTup h.1.1) rfl) fun _ _ => rfl
  · cases h
theorem ckS_ok (g : Gd X W ex call con gb k) (hN : X.N = N) (hs : X.env.scope = sc) (hf : ∀ x, X.fn x = true) (hk : X.env.scope.kind = .function) (hp : PassesOwn (model X.prog X.w) X.A X.env X.xe) : ∀ (n : Nat) (ir : S) (s : Stmt), ckS N gb n sc ir s = true → PSx X ex W s (exS call con ir)
  | 0, _, _, h => by simp [ckS] at h
  | n + 1, ir, s, h => by
    have ih := ckS_ok g hN hs hf hk hp n
    have EX := fun ir e z => (ok_all (N := N) (ex := ex) (call := call) (con := con) (gb := gb) (k := k) n).e X W sc (fun _ => true) g hN hs hf ir e z
    cases ir with
    | asg t e =>
      simp only [ckS] at h
      split at h
      · exact ckAsg_ok g hN hs hf hk t e _ _ _ h
      · cases h
    | setx o i e =>
      simp only [ckS] at h
      split at h
      · simp only [Bool.and_eq_true] at h
        exact semS (s_setx g.hu (EX _ _ h.1.1.2).1 (EX _ _ h.1.2).1 (EX _ _ h.2).1 h.1.1.1 swaps_sub sw_sub) fun _ _ => rfl
      · cases h
    | aug i o e =>
      simp only [ckS] at h
      split at h
      · rename_i x _ op v _
        simp only [Bool.and_eq_true, decide_eq_true_eq] at h
        have hl := loc_of h.1.1.2
        rw [← hs] at hl
        have eo := opB_eq h.1.2
        subst eo
        exact semS (s_aug g.nd (by rw [hN]; exact h.1.1.1) hl.1 (EX _ _ h.2).1 (.inl (hf x))) fun _ _ => rfl
      · cases h
    | exp e =>
      simp only [ckS] at h
      split at h
      · simp only [Bool.and_eq_true] at h
        exact semS (s_expr (EX _ _ h.2).1 (swaps_no h.1)) fun _ _ => rfl
      · cases h
    | ret e =>
      simp only [ckS] at h
      split at h
      · exact semS (s_ret (EX _ _ h).1) fun _ _ => rfl
      · cases h
    | retn =>
      simp only [ckS] at h
      split at h
      · exact semS s_retN fun _ _ => rfl
      · cases h
    | iff c a b =>
      simp only [ckS] at h
      split at h
      · simp only [Bool.and_eq_true] at h
        exact semS (s_if (EX _ _ h.1.1).2 (ckSs_ok ih _ _ h.1.2) (ckSs_ok ih _ _ h.2)) fun _ _ => rfl
      · cases h
    | forr t it b =>
      simp only [ckS] at h
      split at h
      · simp only [Bool.and_eq_true] at h
        exact semS (s_for hp g.calm ((ok_all (N := N) (ex := ex) (call := call) (con := con) (gb := gb) (k := k) n).i X W sc (fun _ => true) g hN hs hf _ _ _ h.1.2) (ckT_ok g.calm g.nd hN hs hf n t _ h.1.1.1) (ckSs_ok ih _ _ h.2) (set_of h.1.1.2)) fun _ _ => rfl
      · cases h
    | whil c b =>
      simp only [ckS] at h
      split at h
      · simp only [Bool.and_eq_true] at h
        exact semS (s_while hp (EX _ _ h.1).2 (ckSs_ok ih _ _ h.2) fuel) fun _ _ => rfl
      · cases h
    | brk =>
      simp only [ckS] at h
      split at h
      · exact semS s_brk fun _ _ => rfl
      · cases h
    | cont =>
      simp only [ckS] at h
      split at h
      · exact semS s_cont fun _ _ => rfl
      · cases h
    | pass =>
      simp only [ckS] at h
      split at h
      · exact semS s_pass fun _ _ => rfl
      · cases h
    | ford w t i b =>
      simp only [ckS] at h
      split at h
      · simp only [Bool.and_eq_true] at h
        exact semS (s_ford hp g.calm (ckWk_ok g hN hs h.1.2) (ckT_ok g.calm g.nd hN hs hf n t _ h.1.1.1) (ckSs_ok ih _ _ h.2) (set_of h.1.1.2)) fun ρ M => by
          unfold semFord
          simp only [exS] <;> (rcases ρ[i]? with _ | _ | d <;> first | rfl | (cases d <;> rfl))
      · cases h
    | unk => exact ⟨fun pins s σ H Dn I q => by obtain ⟨ι, ρ, M, _, _, q⟩ := q; exact q.elim⟩
end
end J

namespace J
open PySem PySem.Spec
open PyProof.Rows L2
/-! ## calls: in a memory of their own -/
section
variable {K : PySem.W.Frag} {ι ι' ι'' : List Addr} {H H' : Hp} {M : Mem} {f : Nat → Option Nat}
/-- cells by other numbers, in a heap in which what never changes stays -/
structure RenOk (K : PySem.W.Frag) (f : Nat → Option Nat) (ι : List Addr) (H : Hp) (ι' : List Addr) (H' : Hp) : Prop where
  nm : ∀ n m, f n = some m → ∀ a, ι[n]? = some a → ι'[m]? = some a
  tups : ∀ a vs, SqT K H a vs → SqT K H' a vs
  frzs : ∀ a vs, SqF K H a vs → SqF K H' a vs
mutual
theorem RenOk.rep (o : RenOk K f ι H ι' H') : ∀ (d d' : D) (v : V), d.ren f = some d' → Rep K ι H d v → Rep K ι' H' d' v
  | .non, d', v, e, h => by simp only [D.ren] at e; cases e; simpa [Rep] using h
  | .bl _, d', v, e, h => by simp only [D.ren] at e; cases e; simpa [Rep] using h
  | .int _, d', v, e, h => by simp only [D.ren] at e; cases e; simpa [Rep] using h
  | .str _, d', v, e, h => by simp only [D.ren] at e; cases e; simpa [Rep] using h
  | .tup ds, d', v, e, h => by
    simp only [D.ren] at e
    cases q : D.rens f ds with
    | none => rw [q] at e; cases e
    | some es =>
      rw [q] at e; cases e
      simp only [Rep] at h ⊢
      obtain ⟨b, ws, e, q2, r⟩ := h
      exact ⟨b, ws, e, o.tups _ _ q2, RenOk.reps o ds es ws q r⟩
  | .rol ds, d', v, e, h => by
    simp only [D.ren] at e
    cases q : D.rens f ds with
    | none => rw [q] at e; cases e
    | some es =>
      rw [q] at e; cases e
      simp only [Rep] at h ⊢
      obtain ⟨b, ws, e, q2, r⟩ := h
      exact ⟨b, ws, e, o.frzs _ _ q2, RenOk.reps o ds es ws q r⟩
  | .cell n, d', v, e, h => by
    simp only [D.ren] at e
    cases q : f n with
    | none => rw [q] at e; cases e
    | some m =>
      rw [q] at e; cases e
      simp only [Rep] at h ⊢
      obtain ⟨b, e, q2⟩ := h
      exact ⟨b, e, o.nm _ _ q b q2⟩
theorem RenOk.reps (o : RenOk K f ι H ι' H') : ∀ (ds es : List D) (vs : List V), D.rens f ds = some es → Reps K ι H ds vs → Reps K ι' H' es vs
  | [], es, vs, e, h => by simp only [D.rens] at e; cases e; simpa [Reps] using h
  | d :: r, es, vs, e, h => by
    simp only [D.rens] at e
    cases q : d.ren f with
    | none => rw [q] at e; cases e
    | some d' =>
      rw [q, Option.bind_some] at e
      cases q2 : D.rens f r with
      | none => rw [q2] at e; cases e
      | some t =>
        rw [q2] at e; cases e
        simp only [Reps] at h ⊢
        obtain ⟨v, u, e, h1, h2⟩ := h
        exact ⟨v, u, e, RenOk.rep o d d' v q h1, RenOk.reps o r t u q2 h2⟩
end
theorem RenOk.repK (o : RenOk K f ι H ι' H') : ∀ (ds es : List (Key × D)) (vs : List (Key × V)), renK f ds = some es → RepKs K ι H ds vs → RepKs K ι' H' es vs
  | [], es, vs, e, h => by simp only [renK] at e; cases e; simpa [RepKs] using h
  | d :: r, es, vs, e, h => by
    simp only [renK] at e
    cases q : d.2.ren f with
    | none => rw [q] at e; cases e
    | some d' =>
      rw [q, Option.bind_some] at e
      cases q2 : renK f r with
      | none => rw [q2] at e; cases e
      | some t =>
        rw [q2] at e; cases e
        simp only [RepKs] at h ⊢
        obtain ⟨v, u, e, h1, h2⟩ := h
        exact ⟨v, u, e, RenOk.rep o _ d' v q h1, RenOk.repK o r t u q2 h2⟩
theorem RenOk.cell (o : RenOk K f ι H ι' H') {a : Addr} {c c' : Cell} (e : c.ren f = some c') (h : CellRep K ι H a c) (ha : ∀ u, H a = some u → H' a = some u) : CellRep K ι' H' a c' := by
  cases c with
  | lst ds =>
    simp only [Cell.ren] at e
    cases q : D.rens f ds with
    | none => rw [q] at e; cases e
    | some es =>
      rw [q] at e; cases e
      obtain ⟨vs, h1, h2⟩ := h
      exact ⟨vs, ha _ h1, o.reps _ _ _ q h2⟩
  | dic ds =>
    simp only [Cell.ren] at e
    cases q : renK f ds with
    | none => rw [q] at e; cases e
    | some es =>
      rw [q] at e; cases e
      obtain ⟨vs, h1, h2⟩ := h
      exact ⟨vs, ha _ h1, o.repK _ _ _ q h2⟩
  | frd ds =>
    simp only [Cell.ren] at e
    cases q : renK f ds with
    | none => rw [q] at e; cases e
    | some es =>
      rw [q] at e; cases e
      obtain ⟨b, vs, h1, h2⟩ := h
      exact ⟨b, vs, ha _ h1, o.repK _ _ _ q h2⟩
theorem posL_at : ∀ {l : List Nat} {n i : Nat}, posL l n = some i → l[i]? = some n
  | [], n, i, h => by cases h
  | a :: r, n, i, h => by
    unfold posL at h
    split at h
    · rename_i e
      cases h
      simpa using e
    · cases q : posL r n with
      | none => rw [q] at h; cases h
      | some j => rw [q] at h; cases h; simpa using posL_at q
theorem subM_len : ∀ {L : List Nat} {M M0 : Mem}, subM M f L = some M0 → M0.length = L.length
  | [], M, M0, h => by cases h; rfl
  | n :: r, M, M0, h => by
    simp only [subM] at h
    cases q : M[n]? with
    | none => rw [q] at h; cases h
    | some c =>
      rw [q, Option.bind_some] at h
      cases q2 : c.ren f with
      | none => rw [q2] at h; cases h
      | some c' =>
        rw [q2, Option.bind_some] at h
        cases q3 : subM M f r with
        | none => rw [q3] at h; cases h
        | some t => rw [q3] at h; cases h; simp [subM_len q3]
theorem subM_at : ∀ {L : List Nat} {M M0 : Mem}, subM M f L = some M0 → ∀ (i n : Nat), L[i]? = some n → ∃ c c' : Cell, M[n]? = some c ∧ c.ren f = some c' ∧ M0[i]? = some c'
  | [], M, M0, h, i, n, hi => by cases hi
  | n :: r, M, M0, h, i, k, hi => by
    simp only [subM] at h
    cases q : M[n]? with
    | none => rw [q] at h; cases h
    | some c =>
      rw [q, Option.bind_some] at h
      cases q2 : c.ren f with
      | none => rw [q2] at h; cases h
      | some c' =>
        rw [q2, Option.bind_some] at h
        cases q3 : subM M f r with
        | none => rw [q3] at h; cases h
        | some t =>
          rw [q3] at h; cases h
          cases i with
          | zero => cases hi; exact ⟨c, c', q, q2, rfl⟩
          | succ i => exact subM_at q3 i k (by simpa using hi)
theorem setAll_len : ∀ {L : List Nat} {M ol : Mem}, (setAll M L ol).length = M.length
  | [], M, ol => by cases ol <;> rfl
  | n :: r, M, [] => rfl
  | n :: r, M, c :: t => by simp only [setAll]; rw [setAll_len]; simp
theorem setAll_off : ∀ {L : List Nat} {M ol : Mem} {n : Nat}, n ∉ L → (setAll M L ol)[n]? = M[n]?
  | [], M, ol, n, h => by cases ol <;> rfl
  | m :: r, M, [], n, h => rfl
  | m :: r, M, c :: t, n, h => by
    simp only [List.mem_cons, not_or] at h
    simp only [setAll]
    rw [setAll_off h.2, List.getElem?_set_ne (Ne.symm h.1)]
theorem setAll_on : ∀ {L : List Nat} {M ol : Mem} {i n : Nat}, L.Nodup → ol.length = L.length → L[i]? = some n → n < M.length → (setAll M L ol)[n]? = ol[i]?
  | [], M, ol, i, n, _, _, h, _ => by cases h
  | m :: r, M, [], i, n, _, hl, h, _ => by simp at hl
  | m :: r, M, c :: t, 0, n, nd, hl, h, hn => by
    cases h
    simp only [setAll]
    rw [setAll_off (List.nodup_cons.mp nd).1]
    simp [hn]
  | m :: r, M, c :: t, i + 1, n, nd, hl, h, hn => by
    simp only [setAll]
    rw [setAll_on (List.nodup_cons.mp nd).2 (by simpa using hl) (by simpa using h) (by simpa using hn)]
    rfl
theorem reach_nd {M : Mem} : ∀ (n : Nat) (t acc : List Nat), acc.Nodup → (reach M n t acc).Nodup
  | 0, _, acc, h => h
  | n + 1, [], acc, h => h
  | n + 1, x :: t, acc, h => by
    simp only [reach]
    split
    · exact reach_nd n t acc h
    · rename_i hx
      split
      · refine reach_nd n _ _ ?_
        rw [List.nodup_append]
        refine ⟨h, by simp, fun a ha b hb e => ?_⟩
        simp only [List.mem_singleton] at hb
        subst hb e
        exact hx (List.contains_iff_mem.mpr ha)
      · exact h
/-- the addresses of some cells -/
def pick (ι : List Addr) (L : List Nat) : List Addr := L.map fun n => ι.getD n 0
theorem pick_at {L : List Nat} {i n : Nat} {a : Addr} (h : L[i]? = some n) (hn : ι[n]? = some a) : (pick ι L)[i]? = some a := by
  unfold pick
  rw [List.getElem?_map, h]
  simp [List.getD, hn]
theorem pick_mem {L : List Nat} {a : Addr} (hL : ∀ n ∈ L, n < ι.length) (h : a ∈ pick ι L) : ∃ n ∈ L, ι[n]? = some a := by
  unfold pick at h
  obtain ⟨n, hn, e⟩ := List.mem_map.mp h
  refine ⟨n, hn, ?_⟩
  rw [List.getElem?_eq_getElem (hL n hn)]
  rw [← e]
  simp [List.getD, List.getElem?_eq_getElem (hL n hn)]
theorem nodup_idx {a : Addr} (nd : ι.Nodup) {n m : Nat} (h : ι[n]? = some a) (h' : ι[m]? = some a) : n = m := by
  obtain ⟨h1, e1⟩ := List.getElem?_eq_some_iff.mp h
  obtain ⟨h2, e2⟩ := List.getElem?_eq_some_iff.mp h'
  exact (List.getElem?_inj h1 nd).mp (h.trans h'.symm)
theorem pick_nd (nd : ι.Nodup) : ∀ {L : List Nat}, (∀ n ∈ L, n < ι.length) → L.Nodup → (pick ι L).Nodup
  | [], _, _ => List.nodup_nil
  | n :: r, hL, h => by
    have h1 := List.nodup_cons.mp h
    have hr : ∀ m ∈ r, m < ι.length := fun m hm => hL m (List.mem_cons_of_mem _ hm)
    show (ι.getD n 0 :: pick ι r).Nodup
    refine List.nodup_cons.mpr ⟨fun z => ?_, pick_nd nd hr h1.2⟩
    obtain ⟨m, hm, e⟩ := pick_mem hr z
    have hn := hL n List.mem_cons_self
    have e2 : ι[n]? = some (ι.getD n 0) := by simp [List.getD, List.getElem?_eq_getElem hn]
    exact h1.1 (nodup_idx nd e2 e ▸ hm)
theorem mem_range_of {l : List Nat} {n i : Nat} (h : l[i]? = some n) : n ∈ l := List.mem_of_getElem? h
/-- into the call -/
theorem RepM.enter {L : List Nat} {M0 : Mem} (m : RepM K ι H M) (nd : L.Nodup) (h : subM M (posL L) L = some M0) : RenOk K (posL L) ι H (pick ι L) H ∧ RepM K (pick ι L) H M0 ∧ ∀ n ∈ L, n < M.length := by
  have hL : ∀ n ∈ L, n < M.length := fun n hn => by
    obtain ⟨i, hi, e⟩ := List.getElem_of_mem hn
    obtain ⟨c, c', h1, _⟩ := subM_at h i n (by rw [List.getElem?_eq_getElem hi, e])
    exact (List.getElem?_eq_some_iff.mp h1).1
  have ok : RenOk K (posL L) ι H (pick ι L) H := ⟨fun n k e a ha => pick_at (posL_at e) ha, fun _ _ h => h, fun _ _ h => h⟩
  refine ⟨ok, ⟨by simp [pick, subM_len h], pick_nd m.nd (by rw [m.len]; exact hL) nd, fun i c' hc => ?_⟩, hL⟩
  have hi : i < L.length := by rw [← subM_len h]; exact (List.getElem?_eq_some_iff.mp hc).1
  obtain ⟨c, c2, h1, h2, h3⟩ := subM_at h i L[i] (List.getElem?_eq_getElem hi)
  rw [hc] at h3
  cases h3
  obtain ⟨a, ha, r⟩ := m.at_ _ _ h1
  exact ⟨a, pick_at (List.getElem?_eq_getElem hi) ha, ok.cell h2 r fun u hu => hu⟩
/-- .. and out of it -/
theorem leave_ok {L : List Nat} {M1 M2 : Mem} {ds ds' : List D} (m : RepM K ι H M) (nd : L.Nodup) (hL : ∀ n ∈ L, n < M.length) (st : Step K (pick ι L) H ι' H') (m1 : RepM K ι' H' M1) (h : leave L ds M M1 = some (ds', M2)) :
    ∃ κ, Step K ι H κ H' ∧ RepM K κ H' M2 ∧ ∀ vs, Reps K ι' H' ds vs → Reps K κ H' ds' vs := by
  obtain ⟨t, et, hf⟩ := st.pre
  have hpl : (pick ι L).length = L.length := by simp [pick]
  unfold leave at h
  simp only at h
  generalize hnw : newC L.length ds M1 = nw at h
  have ndw : nw.Nodup := by rw [← hnw]; exact (reach_nd _ _ _ List.nodup_nil).filter _
  have gew : ∀ j ∈ nw, L.length ≤ j := fun j hj => by
    rw [← hnw] at hj
    simpa using (List.mem_filter.mp hj).2
  cases e1 : D.rens (backG L nw M.length) ds with
  | none => rw [e1] at h; cases h
  | some ds1 =>
    rw [e1, Option.bind_some] at h
    cases e2 : subM M1 (backG L nw M.length) (List.range L.length) with
    | none => rw [e2] at h; cases h
    | some ol =>
      rw [e2, Option.bind_some] at h
      cases e3 : subM M1 (backG L nw M.length) nw with
      | none => rw [e3] at h; cases h
      | some nl =>
        rw [e3] at h
        simp only [Option.map_some, Option.some.injEq, Prod.mk.injEq] at h
        obtain ⟨rfl, rfl⟩ := h
        have hw : ∀ j ∈ nw, j < M1.length := fun j hj => by
          obtain ⟨i, hi, e⟩ := List.getElem_of_mem hj
          obtain ⟨c, c', h1, _⟩ := subM_at e3 i j (by rw [List.getElem?_eq_getElem hi, e])
          exact (List.getElem?_eq_some_iff.mp h1).1
        have hw' : ∀ j ∈ nw, j < ι'.length := by rw [m1.len]; exact hw
        have fresh : ∀ a ∈ pick ι' nw, H a = none := fun a ha => by
          obtain ⟨j, hj, e⟩ := pick_mem hw' ha
          rw [et, List.getElem?_append_right (by rw [hpl]; exact gew j hj)] at e
          exact hf a (List.mem_of_getElem? e)
        have sub : ∀ a, a ∈ pick ι L → a ∈ ι := fun a ha => by
          obtain ⟨n, _, e⟩ := pick_mem (by rw [m.len]; exact hL) ha
          exact List.mem_of_getElem? e
        have stp : Step K ι H (ι ++ pick ι' nw) H' := ⟨⟨_, rfl, fresh⟩, fun a o h hn => st.fr a o h fun z => hn (sub a z), st.dom, st.tups, st.frzs, st.lock⟩
        -- numbers of the call's cells
        have old : ∀ i n a, L[i]? = some n → ι'[i]? = some a → ι[n]? = some a := fun i n a hi ha => by
          have hlt : i < L.length := (List.getElem?_eq_some_iff.mp hi).1
          rw [et, List.getElem?_append_left (by rw [hpl]; exact hlt)] at ha
          have hn : n < ι.length := by rw [m.len]; exact hL n (List.mem_of_getElem? hi)
          have e2 : (pick ι L)[i]? = some ι[n] := pick_at hi (List.getElem?_eq_getElem hn)
          rw [ha] at e2
          rw [List.getElem?_eq_getElem hn, Option.some.inj e2]
        have ok : RenOk K (backG L nw M.length) ι' H' (ι ++ pick ι' nw) H' := by
          refine ⟨fun j k e a ha => ?_, fun _ _ h => h, fun _ _ h => h⟩
          unfold backG at e
          split at e
          · have := old j k a e ha
            rw [List.getElem?_append_left (List.getElem?_eq_some_iff.mp this).1]
            exact this
          · cases q : posL nw j with
            | none => rw [q] at e; cases e
            | some i =>
              rw [q] at e
              have ek : M.length + i = k := Option.some.inj e
              subst ek
              rw [List.getElem?_append_right (by rw [m.len]; omega), m.len, Nat.add_sub_cancel_left]
              exact pick_at (posL_at q) ha
        refine ⟨ι ++ pick ι' nw, stp, ⟨?_, ?_, fun n c hc => ?_⟩, fun vs r => ok.reps _ _ _ e1 r⟩
        · simp [setAll_len, m.len, pick, subM_len e3]
        · rw [List.nodup_append]
          refine ⟨m.nd, pick_nd m1.nd hw' ndw, fun a ha b hb e => ?_⟩
          subst e
          exact m.live ha (fresh _ hb)
        · by_cases hn : n < M.length
          · rw [List.getElem?_append_left (by rw [setAll_len]; exact hn)] at hc
            by_cases hm : n ∈ L
            · obtain ⟨i, hi, e⟩ := List.getElem_of_mem hm
              have hi' : L[i]? = some n := by rw [List.getElem?_eq_getElem hi, e]
              rw [setAll_on nd (by rw [subM_len e2]; simp) hi' hn] at hc
              obtain ⟨c1, c2, h1, h2, h3⟩ := subM_at e2 i i (by simp [hi])
              rw [hc] at h3
              cases h3
              obtain ⟨a, ha, r⟩ := m1.at_ _ _ h1
              have ho := old i n a hi' ha
              exact ⟨a, by rw [List.getElem?_append_left (List.getElem?_eq_some_iff.mp ho).1]; exact ho, ok.cell h2 r fun u hu => hu⟩
            · rw [setAll_off hm] at hc
              obtain ⟨a, ha, r⟩ := m.at_ _ _ hc
              have hna : a ∉ pick ι L := fun z => by
                obtain ⟨k, hk, e⟩ := pick_mem (by rw [m.len]; exact hL) z
                exact hm (nodup_idx m.nd e ha ▸ hk)
              exact ⟨a, by rw [List.getElem?_append_left (List.getElem?_eq_some_iff.mp ha).1]; exact ha, r.mono stp fun o q => st.fr a o q hna⟩
          · rw [List.getElem?_append_right (by rw [setAll_len]; omega), setAll_len] at hc
            have hi : n - M.length < nw.length := by rw [← subM_len e3]; exact (List.getElem?_eq_some_iff.mp hc).1
            obtain ⟨c1, c2, h1, h2, h3⟩ := subM_at e3 _ _ (List.getElem?_eq_getElem hi)
            rw [hc] at h3
            cases h3
            obtain ⟨a, ha, r⟩ := m1.at_ _ _ h1
            refine ⟨a, ?_, ok.cell h2 r fun u hu => hu⟩
            rw [List.getElem?_append_right (by rw [m.len]; omega), m.len]
            exact pick_at (List.getElem?_eq_getElem hi) ha
mutual
theorem Rep.indep : ∀ (d : D) (v : V), d.pure = true → Rep K ι H d v → Rep K ι' H d v
  | .non, v, _, h => by simpa [Rep] using h
  | .bl _, v, _, h => by simpa [Rep] using h
  | .int _, v, _, h => by simpa [Rep] using h
  | .str _, v, _, h => by simpa [Rep] using h
  | .tup ds, v, p, h => by
    simp only [Rep] at h ⊢
    obtain ⟨b, ws, e, q, r⟩ := h
    exact ⟨b, ws, e, q, Reps.indep ds ws (by simpa [D.pure] using p) r⟩
  | .rol ds, v, p, h => by
    simp only [Rep] at h ⊢
    obtain ⟨b, ws, e, q, r⟩ := h
    exact ⟨b, ws, e, q, Reps.indep ds ws (by simpa [D.pure] using p) r⟩
  | .cell n, v, p, h => by simp [D.pure] at p
theorem Reps.indep : ∀ (ds : List D) (ws : List V), D.pures ds = true → Reps K ι H ds ws → Reps K ι' H ds ws
  | [], ws, _, h => by simpa [Reps] using h
  | d :: r, ws, p, h => by
    simp only [Reps, D.pures, Bool.and_eq_true] at h p ⊢
    obtain ⟨v, t, e, q, q'⟩ := h
    exact ⟨v, t, e, Rep.indep d v p.1 q, Reps.indep r t p.2 q'⟩
end
/-- .. an error's fields have no cells -/
theorem RX.indep {ex : Exs} {c : Nat} {as : List D} {cls : Value} {dx : Option Addr} (p : D.pures as = true) (h : RX K ex ι H c as cls dx) : RX K ex ι' H c as cls dx := by
  obtain ⟨A, ns, a, vs, h1, h2, h3, h4, h5, h6⟩ := h
  exact ⟨A, ns, a, vs, h1, h2, h3, h4, h5, Reps.indep _ _ p h6⟩
theorem callP_post {ex : Exs} {run : Nat → List D → Mem → R D} {f : Nat} {ds : List D} {vs : List V} {Q : VK} {E : XK} (m : RepM K ι H M) (r : Reps K ι H ds vs) (p : Post K ex (Rep K) E ι H (callP run f ds M) Q) :
    ∃ ι0 M0 ds0, RepM K ι0 H M0 ∧ Reps K ι0 H ds0 vs ∧ Post K ex (Rep K) E ι0 H (run f ds0 M0) Q := by
  unfold callP at p
  simp only at p
  generalize hl : reach M walkF (D.refsL ds) [] = L at p
  have nd : L.Nodup := by rw [← hl]; exact reach_nd _ _ _ List.nodup_nil
  split at p
  · rename_i ds0 M0 e1 e2
    obtain ⟨ok, m0, hL⟩ := m.enter nd e2
    refine ⟨pick ι L, M0, ds0, m0, ok.reps _ _ _ e1 r, ?_⟩
    cases hr : run f ds0 M0 with
    | bad => rw [hr] at p; exact p.elim
    | err c as M1 =>
      rw [hr] at p
      simp only at p
      split at p
      · rename_i ha
        split at p
        · rename_i M2 hv
          intro ι' H' cls dx st m' x
          obtain ⟨κ, st2, m2, _⟩ := leave_ok m nd hL st m' hv
          exact p κ H' cls dx st2 m2 (x.indep ha)
        · exact p.elim
      · exact p.elim
    | ok d M1 =>
      rw [hr] at p
      simp only at p
      split at p
      · rename_i d' M2 hv
        intro ι' H' v st m' x
        obtain ⟨κ, st2, m2, h2⟩ := leave_ok m nd hL st m' hv
        have z := h2 [v] (by simp only [Reps]; exact ⟨v, [], rfl, x, rfl⟩)
        simp only [Reps] at z
        obtain ⟨v', t, e, z1, z2⟩ := z
        subst z2
        cases e
        exact p κ H' v st2 m2 z1
      · exact p.elim
  · exact p.elim
end
end J

namespace J
open PySem PySem.Spec
open PyProof.Rows L2
/-! ## defs -/
structure Row where
  x : Str
  st : Stmt
  f : Nat
  N : List Str
  ps : List Str
  fn : Fn
def Row.dd (r : Row) : He.DefD := ⟨(r.x, none), r.x, r.x, defArgs r.st, defBody r.st, defScope r.st, [], []⟩
structure RowOk (G : Pg) (gb : Str → GB) (r : Row) : Prop where
  fn : G.fn r.f = some r.fn
  np : r.fn.nps = r.ps.length
  nl : r.fn.nls = r.N.length
  sc : FnScope r.N r.ps (defScope r.st)
  ck : all2 (ckS r.N gb 60 (defScope r.st)) r.fn.body (defBody r.st) = true
  bd : ∀ (kV doc pm : Value) (an : Option Addr) (cdv ct : Value) (us : List Value), us.length = r.ps.length → bindArgs (PySem.W.fnOf r.x r.x (defArgs r.st) (defBody r.st) (defScope r.st) .none kV doc pm an cdv ct) ⟨us, []⟩ = pure (r.ps.zip us)
structure World0 (K : PySem.W.Frag) (w : World) (mg : Str → Option Value) (G : Pg) (gb : Str → GB) (rows : List Row) : Prop where
  fns : ∀ x f, gb x = .fn f → ∃ r ∈ rows, r.x = x ∧ r.f = f
  defs : ∀ r ∈ rows, ∃ a fd, mg r.x = some (.ref a) ∧ FunD K r.x r.x (defArgs r.st) (defBody r.st) (defScope r.st) [] [] a fd
  dic : ∀ x g, gb x = .dic g → ∃ a ds kvs, mg x = some (.ref a) ∧ G.con g = some (.tup ds) ∧ pairsD ds = some kvs ∧ KTab K w a kvs
  con : ∀ x g, gb x = .con g → ∃ u v d, mg x = some u ∧ RelV v u ∧ G.con g = some d ∧ (∀ ι H, Rep K ι H d v) ∧ ∀ a, v = .ref a → (∃ ds, d = .tup ds) → ∃ o, K.lookup a = some o ∧ o.cls = .type "tuple" ∧ o.dict = none
  free : ∀ x, gb x = .free → mg x = none
theorem start_rho {K : PySem.W.Frag} {ι : List Addr} {H : Hp} {ds : List D} {vs : List V} {N : List Str} (r : Reps K ι H ds vs) : RepRho K ι H (ds.map some ++ List.replicate (N.length - ds.length) none) (L2.start N vs) := by
  unfold L2.start
  have hl := r.length
  refine ⟨by simp [hl], fun i d h => ?_⟩
  by_cases hi : i < ds.length
  · rw [List.getElem?_append_left (by simpa using hi), List.getElem?_map] at h
    cases hd : ds[i]? with
    | none => rw [hd] at h; cases h
    | some e =>
      rw [hd] at h
      cases h
      obtain ⟨v, h1, h2⟩ := r.get hd
      exact ⟨v, by rw [List.getElem?_append_left (by simpa [← hl] using hi), List.getElem?_map, h1]; rfl, h2⟩
  · rw [List.getElem?_append_right (by simpa using hi)] at h
    have := List.mem_of_getElem? h
    simp [List.mem_replicate] at this
section
variable {P : Program} {w : World} {K : PySem.W.Frag} {mg : Str → Option Value} {base : Heap} {G : Pg} {gb : Str → GB} {rows : List Row} {ex : Exs}
theorem knot (hr : ∀ r ∈ rows, RowOk G gb r) (W0 : World0 K w mg G gb rows) : ∀ (k : Nat) (r : Row), r ∈ rows → ∀ a fd, mg r.x = some (.ref a) → FunD K r.x r.x (defArgs r.st) (defBody r.st) (defScope r.st) [] [] a fd →
    FnOk P w K mg base (L2.CX P w) k a fd r.ps (spF K ex (callP (runF G k)) r.f)
  | 0, r, _, a, fd, _, _ => by
    have no : ∀ vs H Q E, ¬ spF K ex (callP (runF G 0)) r.f vs H Q E := by
      rintro vs H Q E ⟨ι, M, ds, m, rs, p⟩
      obtain ⟨_, _, _, _, _, p0⟩ := callP_post m rs p
      exact p0
    exact ⟨fun vs H Q E h => (no vs H Q E h).elim, fun A outer s H args us vs Q E _ _ _ _ h => (no vs H Q E h).elim⟩
  | k + 1, r, hm, a, fd, hg, F => by
    have ok := hr r hm
    have ih := knot hr W0 k
    have run_eq : ∀ ds M, runF G (k + 1) r.f ds M = if ds.length = r.fn.nps then (match exSs (callP (runF G k)) G.con r.fn.body (ds.map some ++ List.replicate (r.fn.nls - r.fn.nps) none) M with
      | .ok (.nx _) M => .ok .non M
      | .ok (.rt d) M => .ok d M
      | .ok (.xc c as _) M => .err c as M
      | _ => .bad) else .bad := by
      intro ds M
      show (match G.fn r.f with
        | none => R.bad
        | some fn => _) = _
      rw [ok.fn]
      try rfl
    refine FunD.ok F ok.sc (fun vs H Q E h => ?_) (fun cdv A outer s H vs Q E hroom h => ?_)
    · obtain ⟨ι, M, ds1, m, rs, p⟩ := h
      obtain ⟨ι0, M0, ds, m0, rs0, p0⟩ := callP_post m rs p
      rw [run_eq] at p0
      split at p0
      · rename_i hl
        rw [← rs0.length, hl, ok.np]
      · exact p0.elim
    · obtain ⟨ι, M, ds1, m, rs, p⟩ := h
      obtain ⟨ι0, M0, ds, m0, rs0, p0⟩ := callP_post m rs p
      rw [run_eq] at p0
      split at p0
      · rename_i hl
        have tk : L2.Takes (cxOf (L2.CX P w) P w K mg base r.N r.x (defScope r.st) a cdv A outer s H E) (fun cls d _ H => E cls d H) := takes_of rfl rfl rfl rfl
        have g : Gd (cxOf (L2.CX P w) P w K mg base r.N r.x (defScope r.st) a cdv A outer s H E) (fun cls d _ H => E cls d H) ex (callP (runF G k)) G.con gb k := by
          refine ⟨rfl, ok.sc.nd, hroom, fun x f hx => ?_, W0.dic, W0.con, W0.free, fun σ => passAt tk σ⟩
          obtain ⟨r', hr', ex', ef'⟩ := W0.fns x f hx
          obtain ⟨a', fd', hm', F'⟩ := W0.defs r' hr'
          subst ex' ef'
          exact ⟨a', fd', r'.ps, hm', F'.kp, F'.bindsN (hr r' hr').bd, ih r' hr' a' fd' hm' F'⟩
        refine ⟨tS K ex (fun cls d _ H => E cls d H) (exSs (callP (runF G k)) G.con r.fn.body), ?_, ?_⟩
        · exact ckSs_ok (X := cxOf (L2.CX P w) P w K mg base r.N r.x (defScope r.st) a cdv A outer s H E) (fun ir st z => ckS_ok (sc := defScope r.st) g rfl rfl (fun _ => rfl) ok.sc.kind (passes_of rfl) 60 ir st z) r.fn.body (defBody r.st) ok.ck
        · refine ⟨ι0, _, M0, m0, start_rho (N := r.N) rs0, ?_⟩
          rw [ok.nl, ← hl] at p0
          cases hb : exSs (callP (runF G k)) G.con r.fn.body (ds.map some ++ List.replicate (r.N.length - ds.length) none) M0 with
          | bad => rw [hb] at p0; exact p0.elim
          | err c as M1 => rw [hb] at p0; exact p0.elim
          | ok f M1 =>
            rw [hb] at p0
            cases f with
            | nx ρ => exact fun ι' H' σ' st m' rr => p0 ι' H' .non st m' .non
            | rt d => exact p0
            | bk ρ => exact p0.elim
            | ct ρ => exact p0.elim
            | xc c as ρ => exact fun ι' H' σ' cls dx st m' rr x => p0 ι' H' cls dx st m' x
      · exact p0.elim
end
end J

namespace J
open PySem PySem.Spec
open PyProof.Rows L2
/-! ## the head: what stands behind the top -/
mutual
def repB (K : PySem.W.Frag) : D → Value → Bool
  | .non, .none => true
  | .bl b, .bool c => b == c
  | .int i, .int j _ => decide (i = j)
  | .str s, .str t _ => decide (s = t)
  | .tup ds, .ref a => (match K.lookup a with
    | some ⟨.type c, none, .seq its _, _⟩ => decide (c = "tuple") && (decide (its.size ≤ sizeLine) && repsB K ds its.toList)
    | _ => false)
  | .rol ds, .ref a => (match K.lookup a with
    | some ⟨.type c, none, .seq its _, _⟩ => decide (c = "list") && (decide (its.size ≤ sizeLine) && repsB K ds its.toList)
    | _ => false)
  | _, _ => false
def repsB (K : PySem.W.Frag) : List D → List Value → Bool
  | [], [] => true
  | d :: ds, u :: us => repB K d u && repsB K ds us
  | _, _ => false
end
theorem seqK {K : PySem.W.Frag} {a : Addr} {n : String} {p : Array Value → Bool} (h : (match K.lookup a with
    | some ⟨.type c, none, .seq its _, _⟩ => decide (c = n) && (decide (its.size ≤ sizeLine) && p its)
    | _ => false) = true) : ∃ (o : Obj) (its : Array Value) (m : Nat), K.lookup a = some o ∧ o.cls = .type n ∧ o.dict = none ∧ o.data = .seq its m ∧ its.size ≤ sizeLine ∧ p its = true := by
  cases q : K.lookup a with
  | none => rw [q] at h; cases h
  | some o =>
    obtain ⟨oc, od, dt, osl⟩ := o
    rw [q] at h
    cases oc with
    | type c =>
      cases od with
      | none =>
        cases dt with
        | seq its m =>
          obtain ⟨h1, h2⟩ := He.ba (show (decide (c = n) && (decide (its.size ≤ sizeLine) && p its)) = true from h)
          obtain ⟨h3, h4⟩ := He.ba h2
          exact ⟨_, its, m, rfl, congrArg Value.type (of_decide_eq_true h1), rfl, rfl, of_decide_eq_true h3, h4⟩
        | _ => cases h
      | some b => cases dt <;> cases h
    | _ => cases od <;> cases dt <;> cases h
mutual
theorem repB_ok (K : PySem.W.Frag) : ∀ (d : D) (u : Value), repB K d u = true → ∃ v, RelV v u ∧ (∀ ι H, Rep K ι H d v) ∧ ∀ a, v = .ref a → (∃ ds, d = .tup ds) → ∃ o, K.lookup a = some o ∧ o.cls = .type "tuple" ∧ o.dict = none
  | .non, u, h => by
    cases u with
    | none => exact ⟨.non, rfl, fun _ _ => rfl, fun a e => by cases e⟩
    | _ => simp [repB] at h
  | .bl b, u, h => by
    cases u with
    | bool c =>
      simp only [repB] at h
      have e : b = c := eq_of_beq h
      subst e
      exact ⟨.bl b, rfl, fun _ _ => rfl, fun a e => by cases e⟩
    | _ => simp [repB] at h
  | .int i, u, h => by
    cases u with
    | int j t =>
      simp only [repB] at h
      have e : i = j := of_decide_eq_true h
      subst e
      exact ⟨.int i, ⟨t, rfl⟩, fun _ _ => rfl, fun a e => by cases e⟩
    | _ => simp [repB] at h
  | .str i, u, h => by
    cases u with
    | str j t =>
      simp only [repB] at h
      have e : i = j := of_decide_eq_true h
      subst e
      exact ⟨.str i, ⟨t, rfl⟩, fun _ _ => rfl, fun a e => by cases e⟩
    | _ => simp [repB] at h
  | .tup ds, u, h => by
    cases u with
    | ref a =>
      simp only [repB] at h
      obtain ⟨o, its, m, h1, h2, h3, h4, h5, h6⟩ := seqK (p := fun its => repsB K ds its.toList) h
      obtain ⟨vs, q1, q2⟩ := repsB_ok K ds its.toList h6
      exact ⟨.ref a, rfl, fun ι H => by simp only [Rep]; exact ⟨a, vs, rfl, .inr ⟨o, its, m, h1, h2, h4, h5, q1⟩, q2 ι H⟩, fun b e _ => by cases e; exact ⟨o, h1, h2, h3⟩⟩
    | _ => simp [repB] at h
  | .rol ds, u, h => by
    cases u with
    | ref a =>
      simp only [repB] at h
      obtain ⟨o, its, m, h1, h2, h3, h4, h5, h6⟩ := seqK (p := fun its => repsB K ds its.toList) h
      obtain ⟨vs, q1, q2⟩ := repsB_ok K ds its.toList h6
      exact ⟨.ref a, rfl, fun ι H => by simp only [Rep]; exact ⟨a, vs, rfl, .inr ⟨o, its, m, h1, h2, h3, h4, h5, q1⟩, q2 ι H⟩, fun b e z => by obtain ⟨_, z⟩ := z; cases z⟩
    | _ => simp [repB] at h
  | .cell n, u, h => by simp [repB] at h
theorem repsB_ok (K : PySem.W.Frag) : ∀ (ds : List D) (us : List Value), repsB K ds us = true → ∃ vs, Vals vs us ∧ ∀ ι H, Reps K ι H ds vs
  | [], [], _ => ⟨[], .nil, fun _ _ => by simp [Reps]⟩
  | [], _ :: _, h => by simp [repsB] at h
  | _ :: _, [], h => by simp [repsB] at h
  | d :: ds, u :: us, h => by
    simp only [repsB, Bool.and_eq_true] at h
    obtain ⟨v, h1, h2, _⟩ := repB_ok K d u h.1
    obtain ⟨vs, q1, q2⟩ := repsB_ok K ds us h.2
    exact ⟨v :: vs, .cons h1 q1, fun ι H => by simp only [Reps]; exact ⟨v, vs, rfl, h2 ι H, q2 ι H⟩⟩
end
def cstB (K : PySem.W.Frag) (x : Str) (d : D) : Bool := match PySem.W.nsIn K mainGlobals x with
  | some (some u) => repB K d u
  | _ => false
/-! ### tables of the top -/
def dicD (kvs : List (Str × D)) : List D := kvs.map fun q => .tup [.str q.1, q.2]
def dicKs (kvs : List (Str × D)) : List (Key × D) := kvs.map fun q => (.inr q.1, q.2)
theorem pairs_dicD : ∀ kvs : List (Str × D), pairsD (dicD kvs) = some (dicKs kvs)
  | [] => rfl
  | q :: r => by
    show ((toKey (.str q.1)).bind fun k => (pairsD (dicD r)).map fun t => (k, q.2) :: t) = _
    rw [pairs_dicD r]
    rfl
def entB (K : PySem.W.Frag) : List DictEntry → List (Str × D) → Bool
  | [], [] => true
  | e :: r, q :: t => (match e.key with
    | .str x _ => x == q.1
    | _ => false) && (!e.refKey && (repB K q.2 e.val && entB K r t))
  | _, _ => false
theorem entB_ok {K : PySem.W.Frag} : ∀ {es : List DictEntry} {kvs : List (Str × D)}, entB K es kvs = true → es.any (·.refKey) = false ∧ ∀ z : Str, (lookK (.inr z) (dicKs kvs) = none ∧ es.find? (·.key.isStr z) = none) ∨ ∃ d e v, lookK (.inr z) (dicKs kvs) = some d ∧ es.find? (·.key.isStr z) = some e ∧ RelV v e.val ∧ ∀ ι H, Rep K ι H d v
  | [], [], _ => ⟨rfl, fun z => .inl ⟨rfl, rfl⟩⟩
  | [], _ :: _, h => by cases h
  | _ :: _, [], h => by cases h
  | e :: r, q :: t, h => by
    simp only [entB, Bool.and_eq_true, Bool.not_eq_true'] at h
    obtain ⟨h1, h2, h3, h4⟩ := h
    obtain ⟨i1, i2⟩ := entB_ok h4
    refine ⟨by simp [h2, i1], fun z => ?_⟩
    have hk : e.key.isStr z = (q.1 == z) := by
      cases ek : e.key with
      | str x t' =>
        rw [ek] at h1
        have : x = q.1 := eq_of_beq h1
        subst this
        rfl
      | _ => rw [ek] at h1; cases h1
    obtain ⟨v, r1, r2, _⟩ := repB_ok K _ _ h3
    by_cases hz : q.1 = z
    · refine .inr ⟨q.2, e, v, ?_, ?_, r1, r2⟩
      · show (if (Sum.inr q.1 : Key) = Sum.inr z then some q.2 else _) = _
        rw [hz, if_pos rfl]
      · rw [List.find?_cons, hk, hz]
        simp
    · have e1 : lookK (.inr z) (dicKs (q :: t)) = lookK (.inr z) (dicKs t) := by
        show (if (Sum.inr q.1 : Key) = Sum.inr z then some q.2 else lookK (.inr z) (dicKs t)) = _
        rw [if_neg (by intro w; exact hz (Sum.inr.inj w))]
      have e2 : (e :: r).find? (·.key.isStr z) = r.find? (·.key.isStr z) := by
        rw [List.find?_cons, hk]
        have : (q.1 == z) = false := by simp [hz]
        rw [this]
      rw [e1, e2]
      exact i2 z
def dicB (K : PySem.W.Frag) (x : Str) (kvs : List (Str × D)) : Bool := He.eqO (PySem.W.nsIn K mainGlobals x) (some (some (.ref (He.ga K x)))) && (match K.lookup (He.ga K x) with
  | some ⟨_, _, .dict es _, _⟩ => entB K es.toList kvs
  | _ => false)
theorem dicB_ok {K : PySem.W.Frag} {x : Str} {kvs : List (Str × D)} (h : dicB K x kvs = true) : PySem.W.nsIn K mainGlobals x = some (some (.ref (He.ga K x))) ∧ ∀ z : Str, (lookK (.inr z) (dicKs kvs) = none ∧ PySem.W.nsIn K (He.ga K x) z = some none) ∨ ∃ d u v, lookK (.inr z) (dicKs kvs) = some d ∧ PySem.W.nsIn K (He.ga K x) z = some (some u) ∧ RelV v u ∧ ∀ ι H, Rep K ι H d v := by
  obtain ⟨h1, h2⟩ := He.ba h
  refine ⟨He.eqO_ok h1, ?_⟩
  split at h2
  · rename_i cl dd es n sl hl
    obtain ⟨i1, i2⟩ := entB_ok h2
    intro z
    have en : PySem.W.nsIn K (He.ga K x) z = (match es.toList.find? (·.key.isStr z) with
      | some e => some (some e.val)
      | none => if es.toList.any (·.refKey) then none else some none) := by
      unfold PySem.W.nsIn
      rw [hl]
      try rfl
    rcases i2 z with ⟨g1, g2⟩ | ⟨d, e, v, g1, g2, g3, g4⟩
    · refine .inl ⟨g1, ?_⟩
      rw [en, g2]
      show (if es.toList.any (·.refKey) = true then none else some none) = _
      rw [i1]
      rfl
    · exact .inr ⟨d, e.val, v, g1, by rw [en, g2], g3, g4⟩
  · cases h2
/-! ### a law's world: its rows, its constants, its tables, the names that are none of the module's -/
abbrev Dics : Type := List (Str × Nat × List (Str × D))
def gbOf (rows : List Row) (cons : List (Str × Nat × D)) (dics : Dics) (frs : List Str) (x : Str) : GB := match rows.find? (fun r => r.x == x) with
  | some r => .fn r.f
  | none => match cons.find? (fun p => p.1 == x) with
    | some p => .con p.2.1
    | none => match dics.find? (fun p => p.1 == x) with
      | some p => .dic p.2.1
      | none => if frs.contains x then .free else .other
def allC (cons : List (Str × Nat × D)) (dics : Dics) : List (Str × Nat × D) := cons ++ dics.map fun p => (p.1, p.2.1, .tup (dicD p.2.2))
def pgOf (rows : List Row) (cons : List (Str × Nat × D)) (dics : Dics) : Pg := ⟨fun f => (rows.find? (fun r => r.f == f)).map (·.fn), fun g => ((allC cons dics).find? (fun p => p.2.1 == g)).map (·.2.2)⟩
def faOf (rows : List Row) (frs : List Str) : List He.Fa := rows.map (fun r => .glo r.x) ++ frs.map .free
def tsOf (dics : Dics) : List He.Tab := dics.map fun p => ((fun K => He.ga K p.1), p.2.2.map (·.1))
def exOf (cons : List (Str × Nat × D)) (dics : Dics) (K : PySem.W.Frag) : Bool := (cons.all fun p => cstB K p.1 p.2.2) && dics.all fun p => dicB K p.1 p.2.2
def consB (cons : List (Str × Nat × D)) : Bool := cons.all fun p => decide ((cons.find? (fun q => q.2.1 == p.2.1)).map (·.2.2) = some p.2.2)
theorem world0 {rows : List Row} {cons : List (Str × Nat × D)} {dics : Dics} {frs : List Str} {w : World} {h : Heap} {K : PySem.W.Frag} {mg : Str → Option Value} (KX : K.In h) (G : h.Ns mainGlobals mg) (hc : consB (allC cons dics) = true)
    (c : He.SaysX (faOf rows frs) (rows.map Row.dd) (tsOf dics) [] (exOf cons dics) w h K) : World0 K w mg (pgOf rows cons dics) (gbOf rows cons dics frs) rows := by
  have more := He.ba c.more
  refine ⟨fun x f e => ?_, fun r hr => ?_, fun x g e => ?_, fun x g e => ?_, fun x e => ?_⟩
  · unfold gbOf at e
    split at e
    · rename_i r hr
      cases e
      exact ⟨r, List.mem_of_find?_eq_some hr, eq_of_beq (a := r.x) (b := x) (List.find?_some (p := fun (r : Row) => r.x == x) hr), rfl⟩
    · split at e
      · cases e
      · split at e
        · cases e
        · split at e <;> cases e
  · have h1 : (He.Fa.glo r.x).ok K = true := c.t.d.facts (by unfold faOf; exact List.mem_append_left _ (List.mem_map.mpr ⟨r, hr, rfl⟩))
    obtain ⟨fd, F⟩ := c.t.d.defs (d := r.dd) (List.mem_map.mpr ⟨r, hr, rfl⟩)
    exact ⟨_, fd, He.glo_ok KX G h1, F⟩
  · unfold gbOf at e
    split at e
    · cases e
    · split at e
      · cases e
      · split at e
        · rename_i p hi
          cases e
          have hp := List.mem_of_find?_eq_some hi
          have hm := dicB_ok (List.all_eq_true.mp more.2 p hp)
          have h4 := of_decide_eq_true (List.all_eq_true.mp hc (p.1, p.2.1, .tup (dicD p.2.2)) (by unfold allC; exact List.mem_append_right _ (List.mem_map.mpr ⟨p, hp, rfl⟩)))
          have ex : p.1 = x := eq_of_beq (a := p.1) (b := x) (List.find?_some (p := fun (p : Str × Nat × List (Str × D)) => p.1 == x) hi)
          obtain ⟨i, hi', ei⟩ := List.mem_iff_getElem.mp hp
          have kd := c.t.tab i (t := ((fun K => He.ga K p.1), p.2.2.map (·.1))) (by unfold tsOf; rw [List.getElem?_map, List.getElem?_eq_getElem hi', ei]; rfl)
          refine ⟨He.ga K p.1, dicD p.2.2, dicKs p.2.2, ?_, h4, pairs_dicD _, kd, hm.2⟩
          have z := hm.1
          rw [ex] at z ⊢
          exact PySem.W.mg_of KX G z
        · split at e <;> cases e
  · unfold gbOf at e
    split at e
    · cases e
    · split at e
      · rename_i p hi
        cases e
        have hp := List.mem_of_find?_eq_some hi
        have hm := List.all_eq_true.mp more.1 p hp
        have h4 := of_decide_eq_true (List.all_eq_true.mp hc p (by unfold allC; exact List.mem_append_left _ hp))
        have ex : p.1 = x := eq_of_beq (a := p.1) (b := x) (List.find?_some (p := fun (p : Str × Nat × D) => p.1 == x) hi)
        unfold cstB at hm
        split at hm
        · rename_i u hu
          obtain ⟨v, h1, h2, h3⟩ := repB_ok K _ _ hm
          rw [ex] at hu
          exact ⟨u, v, p.2.2, PySem.W.mg_of KX G hu, h1, h4, h2, h3⟩
        · cases hm
      · split at e
        · cases e
        · split at e <;> cases e
  · unfold gbOf at e
    split at e
    · cases e
    · split at e
      · cases e
      · split at e
        · cases e
        · split at e
          · rename_i hc
            have h1 : (He.Fa.free x).ok K = true := c.t.d.facts (by unfold faOf; exact List.mem_append_right _ (List.mem_map.mpr ⟨x, List.contains_iff_mem.mp hc, rfl⟩))
            exact He.free_ok KX G h1
          · cases e
/-! ### a law's end -/
theorem RepM.nil {K : PySem.W.Frag} {H : Hp} : RepM K [] H [] := ⟨rfl, by simp, fun n c h => by simp at h⟩
theorem reps_ints {K : PySem.W.Frag} {ι : List Addr} {H : Hp} : ∀ ns : List Int, Reps K ι H (ns.map .int) (ns.map V.int)
  | [] => by simp [Reps]
  | n :: r => by simp only [List.map_cons, Reps]; exact ⟨_, _, rfl, by simp [Rep], reps_ints r⟩
theorem walkJ {l : PySem.W.OpenLaw} {n k : Nat} {q : Program} {loose : List Str} {XP : (Str → Option Value) → Heap → Prop} {d : DefRec} {rows : List Row} {cons : List (Str × Nat × D)} {dics : Dics} {frs : List Str} {r : Row} {N : Nat} {x : Str}
    (hn : l.most = some n) (hn2 : n ≤ sizeLine) (hdf : d.params.defaults = []) (hr : Room k callerA) (hd : d.name = r.x) (hm : r ∈ rows) (hps : r.ps = [x]) (hcs : consB (allC cons dics) = true) (ok : ∀ r ∈ rows, RowOk (pgOf rows cons dics) (gbOf rows cons dics frs) r)
    (law : ∀ ns : List Int, ns.length ≤ n → (∀ z ∈ ns, Builtin.Int.intBits z ≤ 1048576) → ∃ M, callP (runF (pgOf rows cons dics) k) r.f [.rol (ns.map .int)] [] = .ok (.bl true) M) :
    PySem.W.WalkO q loose XP (He.hookX N (faOf rows frs) (rows.map Row.dd) (tsOf dics) [] (exOf cons dics)).says l.row.toRowW d [] (fun f vs => PySem.call f vs) := by
  refine Att.attach_callB hn hdf fun w s₀ s₁ mg mb fa o pm cd doc a vs ns G Y ho hd' hcd hmg hobj hints hlen hbits hg => ?_
  obtain ⟨K, KX, c⟩ := Y
  have W0 := world0 (mg := mg) KX G.T.g hcs c
  obtain ⟨a', fd, e, F⟩ := W0.defs r hm
  rw [hd, e] at hmg
  cases hmg
  have b := FunD.bindsA (ps := r.ps) F (ok r hm).bd
  have ok1 : ∀ base : Heap, K.In base → base.Ns mainGlobals mg → FnOk l.prog w K mg base (L2.CX l.prog w) k fa fd [x] (spF K (fun _ => none) (callP (runF (pgOf rows cons dics) k)) r.f) := fun base _ _ => by
    have z := knot (P := l.prog) (w := w) (base := base) (ex := fun _ => none) ok W0 k r hm fa fd e F
    rw [hps] at z
    exact z
  refine law_call KX G.T.g G.T.b G.T.builtins G.T.nolimit hg hobj hints (Nat.le_trans hlen hn2) hr ok1 (fun s u => ?_) (fun H hO hS => ?_) fun H e s' => ?_
  · have z := b s [u] (by rw [hps]; rfl)
    rw [hps] at z
    exact z
  · obtain ⟨M, hM⟩ := law ns hlen hbits
    have hF : SqF K H a (ns.map V.int) := by
      rcases hS with (hS | hS) | hS
      · rcases hO a with z | ⟨o, xs, z⟩ <;> rw [z] at hS <;> cases hS
      · exact .inl hS
      · exact .inr hS
    refine ⟨[], [], [.rol (ns.map .int)], RepM.nil, ?_, ?_⟩
    · simp only [Reps]
      refine ⟨_, [], rfl, ?_, rfl⟩
      simp only [Rep]
      exact ⟨a, ns.map V.int, rfl, hF, reps_ints ns⟩
    · rw [hM]
      exact fun ι' H' v st m' x => by simpa [Rep] using x
  · rintro ⟨_, _, _, _, _, _, _, _, _, _, _, _, z⟩
    exact z
end J

namespace J
open PySem L2
/-! ## running terms by rewriting -/
section
variable {α β : Type} {call : Nat → List D → Mem → R D} {con : Nat → Option D} {ρ : Rho} {M : Mem}
theorem bind_ext {r : R α} {f g : α → Mem → R β} (h : ∀ a M, f a M = g a M) : r.bind f = r.bind g := by cases r <;> first | exact h _ _ | rfl
theorem x_bind {a : α} {f : α → Mem → R β} : (R.ok a M).bind f = f a M := (Eq.symm rfl).symm
theorem x_bindS {a : α} {f : α → Mem → R F} : bindS ρ (R.ok a M) f = f a M := (Eq.symm rfl).symm
theorem x_seq {f : Rho → Mem → R F} : seqS (.ok (.nx ρ) M) f = f ρ M := (Eq.symm rfl).symm
theorem x_seqR {f : Rho → Mem → R F} {d : D} : seqS (.ok (.rt d) M) f = .ok (.rt d) M := (Eq.symm rfl).symm
theorem x_seqB {f : Rho → Mem → R F} : seqS (.ok (.bk ρ) M) f = .ok (.bk ρ) M := (Eq.symm rfl).symm
theorem x_seqC {f : Rho → Mem → R F} : seqS (.ok (.ct ρ) M) f = .ok (.ct ρ) M := (Eq.symm rfl).symm
theorem x_nil : exSs call con [] ρ M = .ok (.nx ρ) M := (Eq.symm rfl).symm
theorem x_cons {s : S} {r : List S} : exSs call con (s :: r) ρ M = seqS (exS call con s ρ M) fun ρ M => exSs call con r ρ M := (Eq.symm rfl).symm
theorem x_asg {t : Tg} {e : E} : exS call con (.asg t e) ρ M = bindS ρ (evE call con e ρ M) fun d M => match asgT t d ρ with
    | some ρ => .ok (.nx ρ) M
    | none => .bad := (Eq.symm rfl).symm
theorem x_setx {o i e : E} : exS call con (.setx o i e) ρ M = bindS ρ (evE call con e ρ M) fun d M => bindS ρ (evE call con o ρ M) fun x M => bindS ρ (evE call con i ρ M) fun y M => match setD M x y d with
    | some M => .ok (.nx ρ) M
    | none => .bad := (Eq.symm rfl).symm
theorem x_aug {i : Nat} {o : Bop} {e : E} : exS call con (.aug i o e) ρ M = match ρ[i]? with
    | some (some x) => bindS ρ (evE call con e ρ M) fun y M => match augD o x y M with
      | some p => .ok (.nx (ρ.set i (some p.1))) p.2
      | none => .bad
    | _ => .bad := (Eq.symm rfl).symm
theorem x_exp {e : E} : exS call con (.exp e) ρ M = bindS ρ (evE call con e ρ M) fun _ M => .ok (.nx ρ) M := (Eq.symm rfl).symm
theorem x_ret {e : E} : exS call con (.ret e) ρ M = bindS ρ (evE call con e ρ M) fun d M => .ok (.rt d) M := (Eq.symm rfl).symm
theorem x_retn : exS call con .retn ρ M = .ok (.rt .non) M := (Eq.symm rfl).symm
theorem x_iff {c : E} {a b : List S} : exS call con (.iff c a b) ρ M = bindS ρ (evT call con c ρ M) fun k M => if k then exSs call con a ρ M else exSs call con b ρ M := (Eq.symm rfl).symm
theorem x_forr {t : Tg} {it : E} {b : List S} : exS call con (.forr t it b) ρ M = bindS ρ (evI call con it ρ M) fun its M => forL (asgT t) (exSs call con b) its.1 its.2 ρ M := (Eq.symm rfl).symm
theorem x_ford {w : Wk} {t : Tg} {i : Nat} {b : List S} : exS call con (.ford w t i b) ρ M = match ρ[i]? with
    | some (some (.cell n)) => (match M[n]? with
      | some (.dic kvs) => unlS n kvs (forL (asgT t) (exSs call con b) [] (wkD w kvs) ρ (M.set n (.frd kvs)))
      | _ => .bad)
    | _ => .bad := (Eq.symm rfl).symm
theorem x_whil {c : E} {b : List S} : exS call con (.whil c b) ρ M = whlL (evT call con c) (exSs call con b) fuel ρ M := (Eq.symm rfl).symm
theorem x_brk : exS call con .brk ρ M = .ok (.bk ρ) M := (Eq.symm rfl).symm
theorem x_cont : exS call con .cont ρ M = .ok (.ct ρ) M := (Eq.symm rfl).symm
theorem x_pass : exS call con .pass ρ M = .ok (.nx ρ) M := (Eq.symm rfl).symm
/-! ### values -/
theorem v_var {i : Nat} : evE call con (.var i) ρ M = match ρ[i]? with
    | some (some d) => .ok d M
    | _ => .bad := (Eq.symm rfl).symm
theorem v_con {d : D} : evE call con (.con d) ρ M = .ok d M := (Eq.symm rfl).symm
theorem v_dis {es : List E} : evE call con (.dis es) ρ M = (evEs call con es ρ (M ++ [.dic []])).bind fun ds M1 => disK M.length ds M1 := (Eq.symm rfl).symm
theorem v_bin {o : Bop} {a b : E} : evE call con (.bin o a b) ρ M = (evE call con a ρ M).bind fun x M => (evE call con b ρ M).bind fun y M => ofO (binD o x y M) := (Eq.symm rfl).symm
theorem v_neg {a : E} : evE call con (.neg a) ρ M = (evE call con a ρ M).bind fun x M => valO M (negD x) := (Eq.symm rfl).symm
theorem v_cmp {o : Cop} {a b : E} : evE call con (.cmp o a b) ρ M = (evE call con a ρ M).bind fun x M => (evE call con b ρ M).bind fun y M => valO M ((cmpD o x y M).map .bl) := (Eq.symm rfl).symm
theorem v_cmp2 {o o' : Cop} {a b c : E} : evE call con (.cmp2 o o' a b c) ρ M = (evE call con a ρ M).bind fun x M => (evE call con b ρ M).bind fun y M => (valO M (cmpD o x y M)).bind fun k M => if k then (evE call con c ρ M).bind fun z M => valO M ((cmpD o' y z M).map .bl) else .ok (.bl false) M := (Eq.symm rfl).symm
theorem v_not {a : E} : evE call con (.nott a) ρ M = (evE call con a ρ M).bind fun x M => valO M ((truD M x).map fun k => .bl (!k)) := (Eq.symm rfl).symm
theorem v_and {a b : E} : evE call con (.andd a b) ρ M = (evE call con a ρ M).bind fun x M => (valO M (truD M x)).bind fun k M => if k then evE call con b ρ M else .ok x M := (Eq.symm rfl).symm
theorem v_or {a b : E} : evE call con (.orr a b) ρ M = (evE call con a ρ M).bind fun x M => (valO M (truD M x)).bind fun k M => if k then .ok x M else evE call con b ρ M := (Eq.symm rfl).symm
theorem v_ite {a b c : E} : evE call con (.ite c a b) ρ M = (evT call con c ρ M).bind fun k M => if k then evE call con a ρ M else evE call con b ρ M := (Eq.symm rfl).symm
theorem v_call {f : Nat} {es : List E} : evE call con (.call f es) ρ M = (evEs call con es ρ M).bind fun ds M => call f ds M := (Eq.symm rfl).symm
theorem v_blt {b : Blt} {es : List E} : evE call con (.blt b es) ρ M = (evEs call con es ρ M).bind fun ds M => ofO (bltD b ds M) := (Eq.symm rfl).symm
theorem v_mth {m : Mth} {o : E} {es : List E} : evE call con (.mth m o es) ρ M = (evE call con o ρ M).bind fun x M => if mthOk M m x then (evEs call con es ρ M).bind fun ds M => ofO (mthD m x ds M) else .bad := (Eq.symm rfl).symm
theorem v_ix {a i : E} : evE call con (.ix a i) ρ M = (evE call con a ρ M).bind fun x M => (evE call con i ρ M).bind fun y M => valO M (ixD M x y) := (Eq.symm rfl).symm
theorem v_sl {a lo hi : E} : evE call con (.sl a lo hi) ρ M = (evE call con a ρ M).bind fun x M => (evP call con lo ρ M).bind fun l M => (evP call con hi ρ M).bind fun h M => ofO (slD M l h x) := (Eq.symm rfl).symm
theorem v_comp {own : List Nat} {t : Tg} {it : E} {cs : List E} {e : E} : evE call con (.comp own t it cs e) ρ M = (evI call con it ρ M).bind fun its M => (noErr (compL (fun d => asgT t d (wipeR ρ own)) (evCs call con cs) (evE call con e) its.1 its.2 [] M)).bind fun ds M => .ok (.cell M.length) (M ++ [.lst ds]) := (Eq.symm rfl).symm
theorem v_dcomp {own : List Nat} {t : Tg} {it : E} {cs : List E} {e e' : E} : evE call con (.dcomp own t it cs e e') ρ M = (evI call con it ρ M).bind fun its M => (noErr (compL (fun d => asgT t d (wipeR ρ own)) (evCs call con cs) (pairV (evE call con e) (evE call con e')) its.1 its.2 [] M)).bind fun ds M => match pairsD ds with
    | some kvs => .ok (.cell M.length) (M ++ [.dic (mergeD [] kvs)])
    | none => .bad := (Eq.symm rfl).symm
theorem v_gget {g : Nat} {e e' : E} : evE call con (.gget g e e') ρ M = (evE call con e ρ M).bind fun x M => (evE call con e' ρ M).bind fun y M => valO M (gdO con g fun kvs => (strK x).map fun s => (lookK (.inr s) kvs).getD y) := (Eq.symm rfl).symm
theorem v_gin {neg : Bool} {g : Nat} {e : E} : evE call con (.gin neg g e) ρ M = (evE call con e ρ M).bind fun x M => valO M (gdO con g fun kvs => (strK x).map fun s => .bl ((lookK (.inr s) kvs).isSome != neg)) := (Eq.symm rfl).symm
theorem v_gix2 {g : Nat} {e : E} : evE call con (.gix2 g e) ρ M = (evE call con e ρ M).bind fun x M => valO M (gdO con g fun kvs => (strK x).bind fun s => lookK (.inr s) kvs) := (Eq.symm rfl).symm
/-! ### as arguments, as a slice's part, walked -/
theorem es_nil : evEs call con [] ρ M = .ok [] M := (Eq.symm rfl).symm
theorem es_cons {e : E} {es : List E} (h : okV e = true) : evEs call con (e :: es) ρ M = (evE call con e ρ M).bind fun x M => (evEs call con es ρ M).bind fun xs M => .ok (x :: xs) M := evEs_plain h
theorem es_star {e : E} {es : List E} : evEs call con (.star e :: es) ρ M = (evE call con e ρ M).bind fun x M => (valO M (starD M x)).bind fun ds M => (evEs call con es ρ M).bind fun xs M => .ok (ds ++ xs) M := R.bind_assoc
theorem p_nop : evP call con .nop ρ M = .ok none M := (Eq.symm rfl).symm
theorem p_e {e : E} (h : okV e = true) : evP call con e ρ M = (evE call con e ρ M).bind fun x M => valO M (partD x) := evP_plain h ρ M
theorem i_rng {es : List E} : evI call con (.rng es) ρ M = (evEs call con es ρ M).bind fun ds M => rngI M ds := (Eq.symm rfl).symm
theorem i_enuE {e : E} : evI call con (.enu e) ρ M = (evE call con e ρ M).bind fun x M => (valO M (itD M x)).bind fun s M => .ok (s.1, enuD 0 s.2) M := (Eq.symm rfl).symm
theorem i_zipE {a b : E} : evI call con (.zip a b) ρ M = (evE call con a ρ M).bind fun x M => (evE call con b ρ M).bind fun y M => valO M (zipI M x y) := (Eq.symm rfl).symm
theorem i_e {e : E} (h : okV e = true) : evI call con e ρ M = (evE call con e ρ M).bind fun x M => valO M (itD M x) := by cases e <;> first | rfl | cases h
theorem cs_nil : evCs call con [] ρ M = .ok true M := (Eq.symm rfl).symm
theorem cs_cons {c : E} {cs : List E} : evCs call con (c :: cs) ρ M = (evT call con c ρ M).bind fun k M => if k then evCs call con cs ρ M else .ok false M := (Eq.symm rfl).symm
/-! ### as tests -/
theorem tt_e {e : E} (h : plainT e = true) : evT call con e ρ M = (evE call con e ρ M).bind fun x M => valO M (truD M x) := evT_plain h ρ M
theorem tt_cmp {o : Cop} {a b : E} : evT call con (.cmp o a b) ρ M = (evE call con a ρ M).bind fun x M => (evE call con b ρ M).bind fun y M => valO M (cmpD o x y M) := by
  rw [tt_e rfl, v_cmp, R.bind_assoc]
  refine bind_ext fun x M => ?_
  rw [R.bind_assoc]
  refine bind_ext fun y M => ?_
  cases cmpD o x y M <;> rfl
theorem tt_cmp2 {o o' : Cop} {a b c : E} : evT call con (.cmp2 o o' a b c) ρ M = (evE call con a ρ M).bind fun x M => (evE call con b ρ M).bind fun y M => (valO M (cmpD o x y M)).bind fun k M => if k then (evE call con c ρ M).bind fun z M => valO M (cmpD o' y z M) else .ok false M := by
  rw [tt_e rfl, v_cmp2, R.bind_assoc]
  refine bind_ext fun x M => ?_
  rw [R.bind_assoc]
  refine bind_ext fun y M => ?_
  rw [R.bind_assoc]
  refine bind_ext fun k M => ?_
  cases k
  · rfl
  · simp only [if_true]
    rw [R.bind_assoc]
    refine bind_ext fun z M => ?_
    cases cmpD o' y z M <;> rfl
theorem tt_not {a : E} : evT call con (.nott a) ρ M = (evT call con a ρ M).bind fun k M => .ok (!k) M := (Eq.symm rfl).symm
theorem tt_and {a b : E} : evT call con (.andd a b) ρ M = (evT call con a ρ M).bind fun k M => if k then evT call con b ρ M else .ok false M := (Eq.symm rfl).symm
theorem tt_or {a b : E} : evT call con (.orr a b) ρ M = (evT call con a ρ M).bind fun k M => if k then .ok true M else evT call con b ρ M := (Eq.symm rfl).symm
theorem tt_ite {a b c : E} : evT call con (.ite c a b) ρ M = (evT call con c ρ M).bind fun k M => if k then evT call con a ρ M else evT call con b ρ M := (Eq.symm rfl).symm
theorem valO_some {a : α} : valO M (some a) = .ok a M := (Eq.symm rfl).symm
theorem ofO_some {d : D} : ofO (some (d, M)) = .ok d M := (Eq.symm rfl).symm
theorem noE_ok {a : α} : noErr (.ok a M) = .ok a M := (Eq.symm rfl).symm
/-! ### loops -/
/-- a loop without returns, by what holds between its turns -/
theorem forL_inv {asg : D → Rho → Option Rho} {body : Rho → Mem → R F} {srcs : List (Nat × Cell)} (I : Nat → Rho → Mem → Prop) : ∀ (ds : List D) (i : Nat) (ρ : Rho) (M : Mem), I i ρ M → (∀ j ρ M, I j ρ M → chk M srcs = true) →
    (∀ (j : Nat) (d : D) (ρ : Rho) (M : Mem), ds[j]? = some d → I (i + j) ρ M → ∃ ρ1 ρ2 M2, asg d ρ = some ρ1 ∧ (body ρ1 M = .ok (.nx ρ2) M2 ∨ body ρ1 M = .ok (.ct ρ2) M2) ∧ I (i + j + 1) ρ2 M2) →
    ∃ ρ' M', forL asg body srcs ds ρ M = .ok (.nx ρ') M' ∧ I (i + ds.length) ρ' M'
  | [], i, ρ, M, h, hc, _ => ⟨ρ, M, by simp [forL, hc _ _ _ h], by simpa using h⟩
  | d :: r, i, ρ, M, h, hc, hs => by
    obtain ⟨ρ1, ρ2, M2, h1, h2, h3⟩ := hs 0 d ρ M rfl (by simpa using h)
    obtain ⟨ρ', M', h4, h5⟩ := forL_inv I r (i + 1) ρ2 M2 (by simpa using h3) hc fun j d ρ M hj hi => by
      have := hs (j + 1) d ρ M (by simpa using hj) (by rw [← Nat.add_assoc, Nat.add_right_comm]; exact hi)
      rw [show i + (j + 1) + 1 = i + 1 + j + 1 by omega] at this
      exact this
    refine ⟨ρ', M', ?_, by rw [List.length_cons, show i + (r.length + 1) = i + 1 + r.length by omega]; exact h5⟩
    simp only [forL, hc _ _ _ h, if_true, h1]
    rcases h2 with h2 | h2 <;> rw [h2] <;> exact h4
/-- a comprehension by what its element comes to -/
theorem compL_inv {asg : D → Option Rho} {tst : Rho → Mem → R Bool} {elt : Rho → Mem → R D} {srcs : List (Nat × Cell)} (I : Nat → List D → Mem → Prop) : ∀ (ds : List D) (i : Nat) (acc : List D) (M : Mem), I i acc M → acc.length + ds.length ≤ big → (∀ j acc M, I j acc M → chk M srcs = true) →
    (∀ (j : Nat) (d : D) (acc : List D) (M : Mem), ds[j]? = some d → I (i + j) acc M → ∃ ρ b M1, asg d = some ρ ∧ tst ρ M = .ok b M1 ∧ ((b = false ∧ I (i + j + 1) acc M1) ∨ (b = true ∧ ∃ x M2, elt ρ M1 = .ok x M2 ∧ I (i + j + 1) (acc ++ [x]) M2))) →
    ∃ ds' M', compL asg tst elt srcs ds acc M = .ok ds' M' ∧ I (i + ds.length) ds' M'
  | [], i, acc, M, h, _, hc, _ => ⟨acc, M, by simp [compL, hc _ _ _ h], by simpa using h⟩
  | d :: r, i, acc, M, h, hb, hc, hs => by
    obtain ⟨ρ, b, M1, h1, h2, h3⟩ := hs 0 d acc M rfl (by simpa using h)
    have next : ∀ acc' M', acc'.length + r.length ≤ big → I (i + 1) acc' M' → ∃ ds' M'', compL asg tst elt srcs r acc' M' = .ok ds' M'' ∧ I (i + 1 + r.length) ds' M'' := fun acc' M' hl hi =>
      compL_inv I r (i + 1) acc' M' hi hl hc fun j d ρ M hj hi => by
        have := hs (j + 1) d ρ M (by simpa using hj) (by rw [← Nat.add_assoc, Nat.add_right_comm]; exact hi)
        rw [show i + (j + 1) + 1 = i + 1 + j + 1 by omega] at this
        exact this
    simp only [List.length_cons] at hb ⊢
    rw [show i + (r.length + 1) = i + 1 + r.length by omega]
    simp only [compL, hc _ _ _ h, if_true, h1, h2, x_bind]
    rcases h3 with ⟨rfl, h3⟩ | ⟨rfl, x, M2, h4, h3⟩
    · exact next _ _ (by omega) h3
    · simp only [if_true, h4, x_bind]
      rw [if_pos (by omega)]
      exact next _ _ (by simp; omega) h3
end
/-! ### a def's run -/
def fin : R F → R D
  | .ok (.nx _) M => .ok .non M
  | .ok (.rt d) M => .ok d M
  | .ok (.xc c as _) M => .err c as M
  | _ => .bad
theorem fin_rt {d : D} {M : Mem} : fin (.ok (.rt d) M) = .ok d M := (Eq.symm rfl).symm
theorem fin_nx {ρ : Rho} {M : Mem} : fin (.ok (.nx ρ) M) = .ok .non M := (Eq.symm rfl).symm
theorem run_of {G : Pg} {f : Nat} {fn : Fn} (h : G.fn f = some fn) {ds : List D} (hl : ds.length = fn.nps) {k : Nat} {M : Mem} : runF G (k + 1) f ds M = fin (exSs (callP (runF G k)) G.con fn.body (ds.map some ++ List.replicate (fn.nls - fn.nps) none) M) := by
  show (match G.fn f with
    | none => R.bad
    | some fn => _) = _
  rw [h]
  simp only [hl, if_true]
  rfl
theorem k_succ {k n : Nat} (h : n + 1 ≤ k) : ∃ j, k = j + 1 ∧ n ≤ j := ⟨k - 1, by omega, by omega⟩
/-! ### calls of what has no cells -/
mutual
theorem refs_pure : ∀ (d : D), d.pure = true → d.refs = []
  | .non, _ => rfl
  | .bl _, _ => rfl
  | .int _, _ => rfl
  | .str _, _ => rfl
  | .tup ds, h => by simp only [D.pure] at h; simp only [D.refs]; exact refsL_pure ds h
  | .rol ds, h => by simp only [D.pure] at h; simp only [D.refs]; exact refsL_pure ds h
  | .cell _, h => by simp [D.pure] at h
theorem refsL_pure : ∀ (ds : List D), D.pures ds = true → D.refsL ds = []
  | [], _ => rfl
  | d :: r, h => by
    simp only [D.pures, Bool.and_eq_true] at h
    simp only [D.refsL, refs_pure d h.1, refsL_pure r h.2, List.nil_append]
end
mutual
theorem ren_pure {f : Nat → Option Nat} : ∀ (d : D), d.pure = true → d.ren f = some d
  | .non, _ => rfl
  | .bl _, _ => rfl
  | .int _, _ => rfl
  | .str _, _ => rfl
  | .tup ds, h => by simp only [D.pure] at h; simp only [D.ren, rens_pure ds h, Option.map_some]
  | .rol ds, h => by simp only [D.pure] at h; simp only [D.ren, rens_pure ds h, Option.map_some]
  | .cell _, h => by simp [D.pure] at h
theorem rens_pure {f : Nat → Option Nat} : ∀ (ds : List D), D.pures ds = true → D.rens f ds = some ds
  | [], _ => rfl
  | d :: r, h => by
    simp only [D.pures, Bool.and_eq_true] at h
    simp only [D.rens, ren_pure d h.1, rens_pure r h.2, Option.bind_some, Option.map_some]
end
theorem pures_append {a b : List D} : D.pures (a ++ b) = (D.pures a && D.pures b) := by
  induction a with
  | nil => rfl
  | cons d r ih => simp only [List.cons_append, D.pures, ih, Bool.and_assoc]
theorem pures_ints (xs : List Int) : D.pures (xs.map .int) = true := by
  induction xs with
  | nil => rfl
  | cons d r ih => simp only [List.map_cons, D.pures, D.pure, ih, Bool.and_self]
theorem reach_nil {M : Mem} {n : Nat} {acc : List Nat} : reach M n [] acc = acc := by cases n <;> rfl
theorem wF : walkF = 999990 + 1 + 1 + 1 + 1 + 1 + 1 + 1 + 1 + 1 + 1 := (Eq.symm rfl).symm
/-- pure arguments, a pure value: the memory stays -/
theorem callP_pure {run : Nat → List D → Mem → R D} {f : Nat} {ds : List D} {M M1 : Mem} {v : D} (hp : D.pures ds = true) (h : run f ds [] = .ok v M1) (hv : v.pure = true) : callP run f ds M = .ok v M := by
  have h1 : D.pures [v] = true := by simp [D.pures, hv]
  have e : leave [] [v] M M1 = some ([v], M) := by
    simp only [leave, newC, refsL_pure [v] h1, List.length_nil, List.range_zero, List.append_nil, reach_nil, List.filter_nil, rens_pure [v] h1, Option.bind_some, subM, Option.map_some, setAll]
  simp only [callP, refsL_pure ds hp, reach_nil, rens_pure ds hp, subM, h, e]
end J

namespace J
open PySem L2
/-! ## values' operations, by rewriting -/
section
variable {M : Mem} {n m : Nat} {a b : Int} {ds es : List D} {s t : Str} {d k x y : D} {c : Cell}
def lstC : Option Cell → Option (List D)
  | some (.lst ds) => some ds
  | _ => none
def dicC : Option Cell → Option (List (Key × D))
  | some (.dic ds) => some ds
  | _ => none
theorem lstC_l : lstC (some (.lst ds)) = some ds := (Eq.symm rfl).symm
theorem lstC_d {kvs : List (Key × D)} : lstC (some (.dic kvs)) = none := (Eq.symm rfl).symm
theorem lstC_f {kvs : List (Key × D)} : lstC (some (.frd kvs)) = none := (Eq.symm rfl).symm
theorem lstC_n : lstC none = none := (Eq.symm rfl).symm
theorem dicC_l : dicC (some (.lst ds)) = none := (Eq.symm rfl).symm
theorem dicC_d {kvs : List (Key × D)} : dicC (some (.dic kvs)) = some kvs := (Eq.symm rfl).symm
theorem lst_C : lstAt M n = lstC M[n]? := by unfold lstAt lstC; rfl
theorem dic_C : dicAt M n = dicC M[n]? := by unfold dicAt dicC; rfl
-- sums and the like
theorem d_addI : binD .add (.int a) (.int b) M = some (.int (a + b), M) := (Eq.symm rfl).symm
theorem d_addS (h : s.length + t.length ≤ big) : binD .add (.str s) (.str t) M = some (.str (s ++ t), M) := if_pos h
theorem d_addT (h : ds.length + es.length ≤ big) : binD .add (.tup ds) (.tup es) M = some (.tup (ds ++ es), M) := if_pos h
def catL (M : Mem) (xs ys : List D) : Option (D × Mem) := if xs.length + ys.length ≤ big then some (.cell M.length, M ++ [.lst (xs ++ ys)]) else none
theorem catL_ok (h : ds.length + es.length ≤ big) : catL M ds es = some (.cell M.length, M ++ [.lst (ds ++ es)]) := if_pos h
theorem d_addL : binD .add (.cell n) (.cell m) M = (lstC M[n]?).bind fun xs => (lstC M[m]?).bind fun ys => catL M xs ys := by rw [← lst_C, ← lst_C]; rfl
theorem d_sub : binD .sub (.int a) (.int b) M = some (.int (a - b), M) := (Eq.symm rfl).symm
theorem d_mul (h : mulOk a b = true) : binD .mul (.int a) (.int b) M = some (.int (a * b), M) := if_pos h
theorem d_fdiv (h : 0 < b) (h' : b < 1073741824) : binD .fdiv (.int a) (.int b) M = some (.int (a / b), M) := if_pos (by rw [decide_eq_true h, decide_eq_true h']; rfl)
theorem d_mod (h : 0 < b) : binD .mod (.int a) (.int b) M = some (.int (a % b), M) := if_pos h
theorem d_augI : augD .add (.int a) (.int b) M = some (.int (a + b), M) := (Eq.symm rfl).symm
theorem d_augSub : augD .sub (.int a) (.int b) M = some (.int (a - b), M) := (Eq.symm rfl).symm
def augL (M : Mem) (n : Nat) (xs ys : List D) : Option (D × Mem) := if xs.length + ys.length ≤ big then some (.cell n, M.set n (.lst (xs ++ ys))) else none
theorem augL_ok (h : ds.length + es.length ≤ big) : augL M n ds es = some (.cell n, M.set n (.lst (ds ++ es))) := if_pos h
theorem d_augL : augD .add (.cell n) (.cell m) M = (lstC M[n]?).bind fun xs => (lstC M[m]?).bind fun ys => augL M n xs ys := by rw [← lst_C, ← lst_C]; rfl
-- comparisons
theorem c_eqI : cmpD .eq (.int a) (.int b) M = some (a == b) := (Eq.symm rfl).symm
theorem c_eqS : cmpD .eq (.str s) (.str t) M = some (decide (s = t)) := (Eq.symm rfl).symm
theorem c_neI : cmpD .ne (.int a) (.int b) M = some (!(a == b)) := (Eq.symm rfl).symm
theorem c_neS : cmpD .ne (.str s) (.str t) M = some (!decide (s = t)) := (Eq.symm rfl).symm
theorem c_lt : cmpD .lt (.int a) (.int b) M = some (decide (a < b)) := (Eq.symm rfl).symm
theorem c_le : cmpD .le (.int a) (.int b) M = some (decide (a ≤ b)) := (Eq.symm rfl).symm
theorem c_gt : cmpD .gt (.int a) (.int b) M = some (decide (b < a)) := (Eq.symm rfl).symm
theorem c_ge : cmpD .ge (.int a) (.int b) M = some (decide (b ≤ a)) := (Eq.symm rfl).symm
theorem c_isn : cmpD .isn x .non M = some (isNonD x) := (Eq.symm rfl).symm
theorem c_isnn : cmpD .isnn x .non M = some (!isNonD x) := (Eq.symm rfl).symm
theorem c_isb {b : Bool} : cmpD .isb x (.bl b) M = some (isBlD b x) := (Eq.symm rfl).symm
theorem c_isnb {b : Bool} : cmpD .isnb x (.bl b) M = some (!isBlD b x) := (Eq.symm rfl).symm
theorem c_in : cmpD .inn x y M = inD M x y := (Eq.symm rfl).symm
theorem c_nin : cmpD .nin x y M = (inD M x y).map (!·) := (Eq.symm rfl).symm
theorem in_tup : inD M x (.tup ds) = if flatD x && ds.all flatD then some (ds.any fun y => eqF y x) else none := (Eq.symm rfl).symm
theorem in_dic {kvs : List (Key × D)} (h : dicC M[n]? = some kvs) : inD M x (.cell n) = (toKey x).map fun k => (lookK k kvs).isSome := by
  unfold dicC at h
  split at h
  · rename_i q; cases h; simp only [inD, q]
  · cases h
theorem eqF_S : eqF (.str s) (.str t) = decide (s = t) := by
  simp only [eqF, toP, PyData.eqv]
  by_cases h : s = t <;> simp [h]
theorem eqF_I : eqF (.int a) (.int b) = (a == b) := by
  simp only [eqF, toP, PyData.eqv]
theorem bl_tt : (true == true) = true := (Eq.symm rfl).symm
theorem bl_ff : (false == false) = true := (Eq.symm rfl).symm
theorem bl_tf : (true == false) = false := (Eq.symm rfl).symm
theorem bl_ft : (false == true) = false := (Eq.symm rfl).symm
-- truth, kinds
theorem tr_non : truD M .non = some false := (Eq.symm rfl).symm
theorem tr_bl {b : Bool} : truD M (.bl b) = some b := (Eq.symm rfl).symm
theorem tr_int : truD M (.int a) = some (a != 0) := (Eq.symm rfl).symm
theorem tr_str (h : s.length ≤ big) : truD M (.str s) = some (s.length != 0) := if_pos h
theorem tr_tup : truD M (.tup ds) = some (!ds.isEmpty) := (Eq.symm rfl).symm
theorem tr_rol : truD M (.rol ds) = some (!ds.isEmpty) := (Eq.symm rfl).symm
def truC : Option Cell → Option Bool
  | some (.lst ds) => some (!ds.isEmpty)
  | some (.dic kvs) => some (!kvs.isEmpty)
  | some (.frd _) => none
  | none => none
theorem truC_l : truC (some (.lst ds)) = some (!ds.isEmpty) := (Eq.symm rfl).symm
theorem truC_d {kvs : List (Key × D)} : truC (some (.dic kvs)) = some (!kvs.isEmpty) := (Eq.symm rfl).symm
theorem tr_cell : truD M (.cell n) = truC M[n]? := (Eq.symm rfl).symm
theorem isi_non {t : Ty} : isiD M t .non = some (isiT none t) := (Eq.symm rfl).symm
theorem isi_bl {b : Bool} {t : Ty} : isiD M t (.bl b) = some (isiT (some .bool) t) := (Eq.symm rfl).symm
theorem isi_int {t : Ty} : isiD M t (.int a) = some (isiT (some .int) t) := (Eq.symm rfl).symm
theorem isi_str {t : Ty} : isiD M t (.str s) = some (isiT (some .str) t) := (Eq.symm rfl).symm
theorem isi_tup {t : Ty} : isiD M t (.tup ds) = some (isiT (some .tuple) t) := (Eq.symm rfl).symm
theorem isi_rol {t : Ty} : isiD M t (.rol ds) = some (isiT (some .list) t) := (Eq.symm rfl).symm
def isiC (t : Ty) : Option Cell → Option Bool
  | some (.lst _) => some (isiT (some .list) t)
  | some (.dic _) => some (isiT (some .dict) t)
  | some (.frd _) => some (isiT (some .dict) t)
  | none => none
theorem isiC_l {t : Ty} : isiC t (some (.lst ds)) = some (isiT (some .list) t) := (Eq.symm rfl).symm
theorem isiC_d {t : Ty} {kvs : List (Key × D)} : isiC t (some (.dic kvs)) = some (isiT (some .dict) t) := (Eq.symm rfl).symm
theorem isi_cell {t : Ty} : isiD M t (.cell n) = isiC t M[n]? := by
  simp only [isiD, tyD]
  by_cases h : n < M.length
  · rw [if_pos h, List.getElem?_eq_getElem h]
    cases M[n] <;> rfl
  · rw [if_neg h, List.getElem?_eq_none (by omega)]
    rfl
-- items, slices, stores
theorem ix_tup : ixD M (.tup ds) (.int a) = atI ds a := (Eq.symm rfl).symm
theorem ix_rol : ixD M (.rol ds) (.int a) = atI ds a := (Eq.symm rfl).symm
def ixC : Option Cell → D → Option D
  | some (.lst ds), .int j => atI ds j
  | some (.dic kvs), i => (toKey i).bind fun k => lookK k kvs
  | some (.frd kvs), i => (toKey i).bind fun k => lookK k kvs
  | _, _ => none
theorem ixC_l : ixC (some (.lst ds)) (.int a) = atI ds a := (Eq.symm rfl).symm
theorem ixC_d {kvs : List (Key × D)} : ixC (some (.dic kvs)) x = (toKey x).bind fun k => lookK k kvs := (Eq.symm rfl).symm
theorem ixC_f {kvs : List (Key × D)} : ixC (some (.frd kvs)) x = (toKey x).bind fun k => lookK k kvs := (Eq.symm rfl).symm
theorem ix_cell : ixD M (.cell n) x = ixC M[n]? x := by
  simp only [ixD]
  cases M[n]? with
  | none => cases x <;> rfl
  | some c => cases c <;> cases x <;> rfl
theorem sl_tup {lo hi : Option Int} : slD M lo hi (.tup ds) = some (.tup (cutD ds lo hi), M) := (Eq.symm rfl).symm
theorem sl_rol {lo hi : Option Int} : slD M lo hi (.rol ds) = some (.cell M.length, M ++ [.lst (cutD ds lo hi)]) := (Eq.symm rfl).symm
theorem sl_cell {lo hi : Option Int} : slD M lo hi (.cell n) = (lstC M[n]?).map fun ds => (.cell M.length, M ++ [.lst (cutD ds lo hi)]) := by rw [← lst_C]; rfl
def setC (M : Mem) (n : Nat) : Option Cell → D → D → Option Mem
  | some (.lst ds), .int j, d => (ixN ds.length j).map fun k => M.set n (.lst (ds.set k d))
  | some (.dic kvs), i, d => (toKey i).bind fun k => if kvs.length < big then some (M.set n (.dic (putKD k d kvs))) else none
  | _, _, _ => none
theorem setC_l : setC M n (some (.lst ds)) (.int a) d = (ixN ds.length a).map fun k => M.set n (.lst (ds.set k d)) := (Eq.symm rfl).symm
theorem setC_d {kvs : List (Key × D)} (h : kvs.length < big) : setC M n (some (.dic kvs)) x d = (toKey x).map fun k => M.set n (.dic (putKD k d kvs)) := by
  simp only [setC, if_pos h]
  cases toKey x <;> rfl
theorem set_cell : setD M (.cell n) x d = setC M n M[n]? x d := by
  simp only [setD]
  cases M[n]? with
  | none => cases x <;> rfl
  | some c => cases c <;> cases x <;> rfl
theorem key_i : toKey (.int a) = some (.inl a) := (Eq.symm rfl).symm
theorem key_s : toKey (.str s) = some (.inr s) := (Eq.symm rfl).symm
theorem part_i : partD (.int a) = some (some a) := (Eq.symm rfl).symm
theorem star_tup : starD M (.tup ds) = some ds := (Eq.symm rfl).symm
theorem star_rol : starD M (.rol ds) = some ds := (Eq.symm rfl).symm
theorem star_cell : starD M (.cell n) = lstC M[n]? := by rw [← lst_C]; rfl
theorem it_tup : itD M (.tup ds) = some ([], ds) := (Eq.symm rfl).symm
theorem it_rol : itD M (.rol ds) = some ([], ds) := (Eq.symm rfl).symm
theorem it_cell : itD M (.cell n) = (lstC M[n]?).map fun ds => ([(n, .lst ds)], ds) := by rw [← lst_C]; rfl
-- calls
theorem b_lenT : bltD .len [.tup ds] M = some (.int ds.length, M) := (Eq.symm rfl).symm
theorem b_lenR : bltD .len [.rol ds] M = some (.int ds.length, M) := (Eq.symm rfl).symm
theorem b_lenS (h : s.length ≤ big) : bltD .len [.str s] M = some (.int s.length, M) := if_pos h
def lenC : Option Cell → Option D
  | some (.lst ds) => some (.int ds.length)
  | some (.dic ds) => some (.int ds.length)
  | some (.frd _) => none
  | none => none
theorem lenC_l : lenC (some (.lst ds)) = some (.int ds.length) := (Eq.symm rfl).symm
theorem lenC_d {kvs : List (Key × D)} : lenC (some (.dic kvs)) = some (.int kvs.length) := (Eq.symm rfl).symm
theorem b_lenC : bltD .len [.cell n] M = (lenC M[n]?).map fun d => (d, M) := by simp only [bltD]; cases M[n]? with | none => rfl | some c => cases c <;> rfl
theorem b_intI : bltD .int [.int a] M = some (.int a, M) := (Eq.symm rfl).symm
theorem b_intB {b : Bool} : bltD .int [.bl b] M = some (.int (if b then 1 else 0), M) := (Eq.symm rfl).symm
theorem b_tupT : bltD .tuple [.tup ds] M = some (.tup ds, M) := (Eq.symm rfl).symm
theorem b_tupR : bltD .tuple [.rol ds] M = some (.tup ds, M) := (Eq.symm rfl).symm
theorem b_tupC : bltD .tuple [.cell n] M = (lstC M[n]?).map fun ds => (.tup ds, M) := by rw [← lst_C]; rfl
theorem b_lstT : bltD .list [.tup ds] M = some (.cell M.length, M ++ [.lst ds]) := (Eq.symm rfl).symm
theorem b_lstR : bltD .list [.rol ds] M = some (.cell M.length, M ++ [.lst ds]) := (Eq.symm rfl).symm
theorem b_lstC : bltD .list [.cell n] M = (lstC M[n]?).map fun ds => (.cell M.length, M ++ [.lst ds]) := by rw [← lst_C]; rfl
def dicL (M : Mem) (kvs : List (Key × D)) : Option (D × Mem) := if kvs.length ≤ big then some (.cell M.length, M ++ [.dic (mergeD [] kvs)]) else none
theorem dicL_ok {kvs : List (Key × D)} (h : kvs.length ≤ big) : dicL M kvs = some (.cell M.length, M ++ [.dic (mergeD [] kvs)]) := if_pos h
theorem b_dict : bltD .dict [.cell n] M = (lstC M[n]?).bind fun ds => (pairsD ds).bind fun kvs => dicL M kvs := by rw [← lst_C]; rfl
theorem b_isi {t : Ty} : bltD (.isi t) [d] M = (isiD M t d).map fun b => (.bl b, M) := by cases d <;> rfl
-- methods
theorem mo_join : mthOk M .join x = isStr x := (Eq.symm rfl).symm
theorem mo_get : mthOk M .get (.cell n) = (dicC M[n]?).isSome := by rw [← dic_C]; rfl
theorem mo_append : mthOk M .append (.cell n) = (lstC M[n]?).isSome := by rw [← lst_C]; rfl
theorem mo_extend : mthOk M .extend (.cell n) = (lstC M[n]?).isSome := by rw [← lst_C]; rfl
theorem mo_pop : mthOk M .pop (.cell n) = (lstC M[n]?).isSome := by rw [← lst_C]; rfl
theorem mo_index : mthOk M .index (.cell n) = (lstC M[n]?).isSome := by rw [← lst_C]; rfl
theorem isStr_s : isStr (.str s) = true := (Eq.symm rfl).symm
def appL (M : Mem) (n : Nat) (ds : List D) (d : D) : Option (D × Mem) := if ds.length < big then some (.non, M.set n (.lst (ds ++ [d]))) else none
theorem appL_ok (h : ds.length < big) : appL M n ds d = some (.non, M.set n (.lst (ds ++ [d]))) := if_pos h
theorem m_append : mthD .append (.cell n) [d] M = (lstC M[n]?).bind fun ds => appL M n ds d := by rw [← lst_C]; rfl
def extL (M : Mem) (n : Nat) (ds es : List D) : Option (D × Mem) := if ds.length + es.length ≤ big then some (.non, M.set n (.lst (ds ++ es))) else none
theorem extL_ok (h : ds.length + es.length ≤ big) : extL M n ds es = some (.non, M.set n (.lst (ds ++ es))) := if_pos h
theorem m_extend : mthD .extend (.cell n) [.cell m] M = (lstC M[n]?).bind fun ds => (lstC M[m]?).bind fun es => extL M n ds es := by rw [← lst_C, ← lst_C]; rfl
theorem m_extendT : mthD .extend (.cell n) [.tup es] M = (lstC M[n]?).bind fun ds => extL M n ds es := by rw [← lst_C]; rfl
theorem m_pop : mthD .pop (.cell n) [] M = (lstC M[n]?).bind fun ds => ds[ds.length - 1]?.map fun d => (d, M.set n (.lst ds.dropLast)) := by rw [← lst_C]; rfl
theorem m_index : mthD .index (.cell n) [x] M = (lstC M[n]?).bind fun ds => if flatD x && ds.all flatD then (idxD x ds).map fun (j : Nat) => (.int j, M) else none := by
  simp only [mthD, lst_C]
  congr 1; funext ds
  cases idxD x ds <;> rfl
def joinL (M : Mem) (s : Str) (ys : List Str) : Option (D × Mem) := if (ys.map fun (z : Str) => z.length).sum + ys.length * s.length ≤ big then some (.str (Txt.join s ys), M) else none
theorem m_joinC : mthD .join (.str s) [.cell n] M = ((lstC M[n]?).bind strsD).bind fun (ys : List Str) => joinL M s ys := by rw [← lst_C]; rfl
theorem m_get1 : mthD .get (.cell n) [k] M = (dicC M[n]?).bind fun kvs => (toKey k).map fun k => ((lookK k kvs).getD .non, M) := by rw [← dic_C]; cases k <;> rfl
theorem m_get2 : mthD .get (.cell n) [k, d] M = (dicC M[n]?).bind fun kvs => (toKey k).map fun k => ((lookK k kvs).getD d, M) := by rw [← dic_C]; cases k <;> rfl
end
section
variable {call : Nat → List D → Mem → R D} {con : Nat → Option D} {ρ : Rho} {M : Mem}
def capT (ds : List D) (M : Mem) : R D := if ds.length ≤ big then .ok (.tup ds) M else .bad
def capL (ds : List D) (M : Mem) : R D := if ds.length ≤ big then .ok (.cell M.length) (M ++ [.lst ds]) else .bad
theorem capT_ok {ds : List D} (h : ds.length ≤ big) : capT ds M = .ok (.tup ds) M := if_pos h
theorem capL_ok {ds : List D} (h : ds.length ≤ big) : capL ds M = .ok (.cell M.length) (M ++ [.lst ds]) := if_pos h
theorem v_tup {es : List E} : evE call con (.tup es) ρ M = (evEs call con es ρ M).bind fun ds M => capT ds M := (Eq.symm rfl).symm
theorem v_lst {es : List E} : evE call con (.lst es) ρ M = (evEs call con es ρ M).bind fun ds M => capL ds M := (Eq.symm rfl).symm
theorem v_glo {g : Nat} {d : D} (h : con g = some d) : evE call con (.glo g) ρ M = .ok d M := by show valO M (con g) = _; rw [h]; rfl
theorem v_gix {g : Nat} {ds : List D} {e : E} (h : con g = some (.tup ds)) : evE call con (.gix g e) ρ M = (evE call con e ρ M).bind fun x M => valO M (gixD (.tup ds) x) := by
  show (if isTupO (con g) then (evE call con e ρ M).bind fun x M => valO M ((con g).bind fun t => gixD t x) else .bad) = _
  rw [h]
  rfl
theorem le_big {n : Nat} (h : n ≤ 16777216) : n ≤ big := h
theorem lt_big {n : Nat} (h : n < 16777216) : n < big := h
end
section
variable {i : Nat} {d : D} {es : List E} {a b c : E} {o o' : Bop} {p p' : Cop} {m : Mth} {l : Blt} {t : Tg} {own : List Nat}
theorem ok_var : okV (.var i) = true := (Eq.symm rfl).symm
theorem ok_con : okV (.con d) = true := (Eq.symm rfl).symm
theorem ok_glo : okV (.glo i) = true := (Eq.symm rfl).symm
theorem ok_gix : okV (.gix i a) = true := (Eq.symm rfl).symm
theorem ok_tup : okV (.tup es) = true := (Eq.symm rfl).symm
theorem ok_lst : okV (.lst es) = true := (Eq.symm rfl).symm
theorem ok_dis : okV (.dis es) = true := (Eq.symm rfl).symm
theorem ok_bin : okV (.bin o a b) = true := (Eq.symm rfl).symm
theorem ok_neg : okV (.neg a) = true := (Eq.symm rfl).symm
theorem ok_cmp : okV (.cmp p a b) = true := (Eq.symm rfl).symm
theorem ok_cmp2 : okV (.cmp2 p p' a b c) = true := (Eq.symm rfl).symm
theorem ok_not : okV (.nott a) = true := (Eq.symm rfl).symm
theorem ok_and : okV (.andd a b) = true := (Eq.symm rfl).symm
theorem ok_or : okV (.orr a b) = true := (Eq.symm rfl).symm
theorem ok_ite : okV (.ite a b c) = true := (Eq.symm rfl).symm
theorem ok_call : okV (.call i es) = true := (Eq.symm rfl).symm
theorem ok_blt : okV (.blt l es) = true := (Eq.symm rfl).symm
theorem ok_mth : okV (.mth m a es) = true := (Eq.symm rfl).symm
theorem ok_ix : okV (.ix a b) = true := (Eq.symm rfl).symm
theorem ok_sl : okV (.sl a b c) = true := (Eq.symm rfl).symm
theorem ok_comp : okV (.comp own t a es b) = true := (Eq.symm rfl).symm
theorem ok_dcomp {c : E} : okV (.dcomp own t a es b c) = true := (Eq.symm rfl).symm
theorem ok_gget {j : Nat} : okV (.gget j a b) = true := (Eq.symm rfl).symm
theorem ok_gin {n : Bool} {j : Nat} : okV (.gin n j a) = true := (Eq.symm rfl).symm
theorem ok_gix2 {j : Nat} : okV (.gix2 j a) = true := (Eq.symm rfl).symm
theorem pt_var : plainT (.var i) = true := (Eq.symm rfl).symm
theorem pt_con : plainT (.con d) = true := (Eq.symm rfl).symm
theorem pt_glo : plainT (.glo i) = true := (Eq.symm rfl).symm
theorem pt_tup : plainT (.tup es) = true := (Eq.symm rfl).symm
theorem pt_lst : plainT (.lst es) = true := (Eq.symm rfl).symm
theorem pt_bin : plainT (.bin o a b) = true := (Eq.symm rfl).symm
theorem pt_call : plainT (.call i es) = true := (Eq.symm rfl).symm
theorem pt_blt : plainT (.blt l es) = true := (Eq.symm rfl).symm
theorem pt_mth : plainT (.mth m a es) = true := (Eq.symm rfl).symm
theorem pt_ix : plainT (.ix a b) = true := (Eq.symm rfl).symm
theorem pt_sl : plainT (.sl a b c) = true := (Eq.symm rfl).symm
theorem pt_comp : plainT (.comp own t a es b) = true := (Eq.symm rfl).symm
theorem pt_dcomp {c : E} : plainT (.dcomp own t a es b c) = true := (Eq.symm rfl).symm
theorem pt_gget {j : Nat} : plainT (.gget j a b) = true := (Eq.symm rfl).symm
theorem pt_gin {n : Bool} {j : Nat} : plainT (.gin n j a) = true := (Eq.symm rfl).symm
theorem pt_gix2 {j : Nat} : plainT (.gix2 j a) = true := (Eq.symm rfl).symm
end
end J

namespace J
open PySem
abbrev z_ : Str := ⟨#[]⟩
def b__law_digits : Fn := ⟨3, 8, [.asg (.nm 3) (.lst []),
  .forr (.nm 4) (.rng [(.var 1), (.var 2)]) [.asg (.nm 5) (.ite (.cmp .lt (.var 4) (.blt .len [(.var 0)])) (.ix (.var 0) (.var 4)) (.con (.int 0))), .iff (.cmp .lt (.var 5) (.con (.int 0))) [.asg (.nm 5) (.bin .sub (.con (.int 1)) (.bin .mul (.con (.int 2)) (.var 5)))] [], .iff (.cmp .ge (.var 5) (.con (.int 1000000000000000000))) [.forr (.nm 6) (.rng [(.con (.int 60))]) [.iff (.cmp .gt (.var 5) (.con (.int 0))) [.exp (.mth .append (.var 3) [(.bin .mod (.blt .int [(.var 5)]) (.con (.int 1009)))]), .asg (.nm 5) (.bin .fdiv (.var 5) (.con (.int 1009)))] []]] [.asg (.nm 7) (.bin .mod (.blt .int [(.bin .add (.bin .add (.bin .mul (.var 5) (.con (.int 40699))) (.bin .mul (.var 4) (.con (.int 52769)))) (.con (.int 31)))]) (.con (.int 2147483399))), .forr (.nm 6) (.rng [(.con (.int 12))]) [.asg (.nm 7) (.bin .mod (.blt .int [(.bin .add (.bin .add (.bin .mul (.var 7) (.con (.int 40014))) (.bin .mul (.con (.int 11)) (.var 6))) (.con (.int 7)))]) (.con (.int 2147483563))), .exp (.mth .append (.var 3) [(.bin .mod (.blt .int [(.bin .fdiv (.var 7) (.con (.int 1013)))]) (.con (.int 1009)))])]]],
  .ret (.var 3)]⟩
def b__law_draw : Fn := ⟨2, 3, [.asg (.nm 2) (.ix (.var 0) (.con (.int 1))),
  .setx (.var 0) (.con (.int 1)) (.bin .add (.var 2) (.con (.int 1))),
  .iff (.cmp .lt (.var 2) (.blt .len [(.ix (.var 0) (.con (.int 0)))])) [.ret (.bin .mod (.blt .int [(.ix (.ix (.var 0) (.con (.int 0))) (.var 2))]) (.var 1))] [],
  .ret (.bin .mod (.blt .int [(.bin .add (.bin .add (.bin .add (.bin .mul (.bin .mul (.var 2) (.var 2)) (.con (.int 3))) (.bin .mul (.var 2) (.con (.int 4)))) (.bin .fdiv (.var 2) (.con (.int 3)))) (.con (.int 1)))]) (.var 1))]⟩
def b__law_pick : Fn := ⟨2, 2, [.ret (.ix (.var 1) (.call 1 [(.var 0), (.blt .len [(.var 1)])]))]⟩
def b__law_like : Fn := ⟨2, 3, [.iff (.blt (.isi .tuple) [(.var 1)]) [.iff (.orr (.nott (.blt (.isi .tuple) [(.var 0)])) (.cmp .ne (.blt .len [(.var 0)]) (.blt .len [(.var 1)]))) [.ret (.con (.bl false))] [], .ret (.cmp .eq (.comp [2] (.nm 2) (.rng [(.blt .len [(.var 1)])]) [(.nott (.call 3 [(.ix (.var 0) (.var 2)), (.ix (.var 1) (.var 2))]))] (.con (.int 1))) (.lst []))] [],
  .iff (.cmp .isn (.var 1) (.con .non)) [.ret (.cmp .isn (.var 0) (.con .non))] [],
  .iff (.cmp .isb (.var 1) (.con (.bl true))) [.ret (.cmp .isb (.var 0) (.con (.bl true)))] [],
  .iff (.cmp .isb (.var 1) (.con (.bl false))) [.ret (.cmp .isb (.var 0) (.con (.bl false)))] [],
  .iff (.blt (.isi .str) [(.var 1)]) [.ret (.andd (.blt (.isi .str) [(.var 0)]) (.cmp .eq (.mth .join (.con (.str z_)) [(.lst [(.var 0)])]) (.var 1)))] [],
  .ret (.andd (.blt (.isi .int) [(.var 0)]) (.andd (.nott (.blt (.isi .bool) [(.var 0)])) (.cmp .eq (.var 0) (.var 1))))]⟩
end J

namespace J
open PySem L2
/-! ## the box of draws -/
def boxC (d at_ : Nat) : Cell := .lst [.cell d, .int at_]
def digC (xs : List Int) : Cell := .lst (xs.map .int)
/-- one draw -/
def dr (xs : List Int) (at_ : Nat) (m : Int) : Int := (match xs[at_]? with
  | some i => i
  | none => (at_ : Int) * at_ * 3 + at_ * 4 + at_ / 3 + 1) % m
theorem dr_lo {xs : List Int} {at_ : Nat} {m : Int} (h : 0 < m) : 0 ≤ dr xs at_ m := Int.emod_nonneg _ (by omega)
theorem dr_hi {xs : List Int} {at_ : Nat} {m : Int} (h : 0 < m) : dr xs at_ m < m := Int.emod_lt_of_pos _ h
theorem atI_nat {ds : List D} {n : Nat} (h : n < ds.length) : atI ds (n : Int) = some ds[n] := by
  unfold atI ixN
  rw [if_pos (Int.natCast_nonneg n), if_pos (by omega)]
  simp [h]
theorem atI_0 {ds : List D} {d : D} : atI (d :: ds) 0 = some d := atI_nat (n := 0) (by simp)
theorem atI_1 {ds : List D} {d e : D} : atI (d :: e :: ds) 1 = some e := atI_nat (n := 1) (by simp)
theorem ixN_nat {l n : Nat} (h : n < l) : ixN l (n : Int) = some n := by
  unfold ixN
  rw [if_pos (Int.natCast_nonneg n), if_pos (by omega)]
  simp
theorem mulOk_r {a b : Int} (h1 : -(2 ^ 64) < b) (h2 : b < 2 ^ 64) : mulOk a b = true := by
  unfold mulOk
  rw [decide_eq_true h1, decide_eq_true h2]
  simp
theorem mulOk_l {a b : Int} (h1 : -(2 ^ 64) < a) (h2 : a < 2 ^ 64) : mulOk a b = true := by
  unfold mulOk
  rw [decide_eq_true h1, decide_eq_true h2]
  simp
theorem run_draw {G : Pg} (hG : G.fn 1 = some b__law_draw) {k : Nat} {xs : List Int} {at_ : Nat} {m : Int} (hm : 0 < m) (ha : at_ < 1000000000000) {M : Mem} (hd : M[1]? = some (digC xs)) (hb : M[0]? = some (boxC 1 at_)) :
    runF G (k + 1) 1 [.cell 0, .int m] M = .ok (.int (dr xs at_ m)) (M.set 0 (boxC 1 (at_ + 1))) := by
  rw [run_of hG rfl]
  have hd' : M[1]? = some (.lst (xs.map .int)) := hd
  have hb' : M[0]? = some (.lst [.cell 1, .int at_]) := hb
  have h0 : 0 < M.length := (List.getElem?_eq_some_iff.mp hb).1
  have e1 : mulOk (at_ : Int) (at_ : Int) = true := mulOk_l (by omega) (by omega)
  have e2 : ∀ a : Int, mulOk a 3 = true := fun a => mulOk_r (by omega) (by omega)
  have e3 : ∀ a : Int, mulOk a 4 = true := fun a => mulOk_r (by omega) (by omega)
  have e4 : ixN 2 1 = some 1 := rfl
  by_cases hl : at_ < xs.length
  · have h3 : atI (xs.map D.int) (at_ : Int) = some (.int xs[at_]) := by rw [atI_nat (by simpa using hl)]; simp
    simp only [b__law_draw, v_dcomp, v_gget, v_gin, v_gix2, i_enuE, i_zipE, lstC_f, ixC_f, m_extendT, ok_dcomp, ok_gget, ok_gin, ok_gix2, pt_dcomp, pt_gget, pt_gin, pt_gix2, x_bind, x_bindS, x_seq, x_seqR, x_seqB, x_seqC, x_nil, x_cons, x_asg, x_setx, x_aug, x_exp, x_ret, x_retn, x_iff, x_forr, x_brk, x_cont, x_pass, v_var, v_con, v_glo, v_gix, v_tup, v_lst, v_dis, v_bin, v_neg, v_cmp, v_cmp2, v_not, v_and, v_or, v_ite, v_call, v_blt, v_mth, v_ix, v_sl, v_comp, es_nil, es_cons, es_star, p_nop, p_e, i_rng, i_e, cs_nil, cs_cons, tt_e, tt_cmp, tt_cmp2, tt_not, tt_and, tt_or, tt_ite, valO_some, ofO_some, noE_ok, fin_rt, fin_nx, bl_tt, bl_ff, bl_tf, bl_ft, asgT, asgTs, wipeR, lst_C, dic_C, lstC_l, lstC_d, dicC_l, dicC_d, d_addI, d_addS, d_addT, d_addL, d_sub, d_mul, d_fdiv, d_mod, d_augI, d_augSub, d_augL, c_eqI, c_eqS, c_neI, c_neS, c_lt, c_le, c_gt, c_ge, c_isn, c_isnn, c_isb, c_isnb, c_in, c_nin, in_tup, in_dic, eqF_S, eqF_I, tr_non, tr_bl, tr_int, tr_str, tr_tup, tr_rol, truC_l, truC_d, tr_cell, isi_non, isi_bl, isi_int, isi_str, isi_tup, isi_rol, isiC_l, isiC_d, isi_cell, isiT, isNonD, isBlD, ix_tup, ix_rol, ixC_l, ixC_d, ix_cell, sl_tup, sl_rol, sl_cell, setC_l, setC_d, set_cell, key_i, key_s, part_i, star_tup, star_rol, star_cell, it_tup, it_rol, it_cell, b_lenT, b_lenR, b_lenS, lenC_l, lenC_d, b_lenC, b_intI, b_intB, b_tupT, b_tupR, b_tupC, b_lstT, b_lstR, b_lstC, b_dict, b_isi, mo_join, mo_get, mo_append, mo_extend, mo_pop, mo_index, isStr_s, m_append, m_extend, m_pop, m_index, m_joinC, m_get1, m_get2, catL_ok, augL_ok, dicL_ok, appL_ok, extL_ok, capT_ok, capL_ok, le_big, lt_big, ok_var, ok_con, ok_glo, ok_gix, ok_tup, ok_lst, ok_dis, ok_bin, ok_neg, ok_cmp, ok_cmp2, ok_not, ok_and, ok_or, ok_ite, ok_call, ok_blt, ok_mth, ok_ix, ok_sl, ok_comp, pt_var, pt_con, pt_glo, pt_tup, pt_lst, pt_bin, pt_call, pt_blt, pt_mth, pt_ix, pt_sl, pt_comp, List.getElem?_cons_zero, List.getElem?_cons_succ, List.set_cons_zero, List.set_cons_succ, List.map_cons, List.map_nil, List.replicate_succ, List.replicate_zero, List.cons_append, List.nil_append, List.length_cons, List.length_nil, List.append_nil, Option.bind_some, Option.bind_none, Option.map_some, Option.map_none, Option.isSome_some, Option.isSome_none, Nat.reduceAdd, Nat.reduceSub, Nat.reduceLeDiff, Nat.reduceEqDiff, Nat.reduceLT, if_true, if_false, Bool.false_eq_true, Bool.and_true, Bool.true_and, Bool.and_false, Bool.false_and, Bool.not_true, Bool.not_false, Bool.or_true, Bool.true_or, Bool.or_false, Bool.false_or, Bool.and_self, ite_true, ite_false, decide_true, decide_false, reduceIte, Int.reduceLT, Int.reduceLE, Int.reduceNeg, Int.reducePow, Int.reduceEq, and_self, and_true, true_and, hd', hb', atI_0, atI_1, e4, List.getElem?_set_self h0, List.getElem?_set_ne (show (0 : Nat) ≠ 1 by decide), List.length_map, hl, hm, h3, Int.ofNat_lt]
    simp [dr, hl, boxC]
  · simp only [b__law_draw, v_dcomp, v_gget, v_gin, v_gix2, i_enuE, i_zipE, lstC_f, ixC_f, m_extendT, ok_dcomp, ok_gget, ok_gin, ok_gix2, pt_dcomp, pt_gget, pt_gin, pt_gix2, x_bind, x_bindS, x_seq, x_seqR, x_seqB, x_seqC, x_nil, x_cons, x_asg, x_setx, x_aug, x_exp, x_ret, x_retn, x_iff, x_forr, x_brk, x_cont, x_pass, v_var, v_con, v_glo, v_gix, v_tup, v_lst, v_dis, v_bin, v_neg, v_cmp, v_cmp2, v_not, v_and, v_or, v_ite, v_call, v_blt, v_mth, v_ix, v_sl, v_comp, es_nil, es_cons, es_star, p_nop, p_e, i_rng, i_e, cs_nil, cs_cons, tt_e, tt_cmp, tt_cmp2, tt_not, tt_and, tt_or, tt_ite, valO_some, ofO_some, noE_ok, fin_rt, fin_nx, bl_tt, bl_ff, bl_tf, bl_ft, asgT, asgTs, wipeR, lst_C, dic_C, lstC_l, lstC_d, dicC_l, dicC_d, d_addI, d_addS, d_addT, d_addL, d_sub, d_mul, d_fdiv, d_mod, d_augI, d_augSub, d_augL, c_eqI, c_eqS, c_neI, c_neS, c_lt, c_le, c_gt, c_ge, c_isn, c_isnn, c_isb, c_isnb, c_in, c_nin, in_tup, in_dic, eqF_S, eqF_I, tr_non, tr_bl, tr_int, tr_str, tr_tup, tr_rol, truC_l, truC_d, tr_cell, isi_non, isi_bl, isi_int, isi_str, isi_tup, isi_rol, isiC_l, isiC_d, isi_cell, isiT, isNonD, isBlD, ix_tup, ix_rol, ixC_l, ixC_d, ix_cell, sl_tup, sl_rol, sl_cell, setC_l, setC_d, set_cell, key_i, key_s, part_i, star_tup, star_rol, star_cell, it_tup, it_rol, it_cell, b_lenT, b_lenR, b_lenS, lenC_l, lenC_d, b_lenC, b_intI, b_intB, b_tupT, b_tupR, b_tupC, b_lstT, b_lstR, b_lstC, b_dict, b_isi, mo_join, mo_get, mo_append, mo_extend, mo_pop, mo_index, isStr_s, m_append, m_extend, m_pop, m_index, m_joinC, m_get1, m_get2, catL_ok, augL_ok, dicL_ok, appL_ok, extL_ok, capT_ok, capL_ok, le_big, lt_big, ok_var, ok_con, ok_glo, ok_gix, ok_tup, ok_lst, ok_dis, ok_bin, ok_neg, ok_cmp, ok_cmp2, ok_not, ok_and, ok_or, ok_ite, ok_call, ok_blt, ok_mth, ok_ix, ok_sl, ok_comp, pt_var, pt_con, pt_glo, pt_tup, pt_lst, pt_bin, pt_call, pt_blt, pt_mth, pt_ix, pt_sl, pt_comp, List.getElem?_cons_zero, List.getElem?_cons_succ, List.set_cons_zero, List.set_cons_succ, List.map_cons, List.map_nil, List.replicate_succ, List.replicate_zero, List.cons_append, List.nil_append, List.length_cons, List.length_nil, List.append_nil, Option.bind_some, Option.bind_none, Option.map_some, Option.map_none, Option.isSome_some, Option.isSome_none, Nat.reduceAdd, Nat.reduceSub, Nat.reduceLeDiff, Nat.reduceEqDiff, Nat.reduceLT, if_true, if_false, Bool.false_eq_true, Bool.and_true, Bool.true_and, Bool.and_false, Bool.false_and, Bool.not_true, Bool.not_false, Bool.or_true, Bool.true_or, Bool.or_false, Bool.false_or, Bool.and_self, ite_true, ite_false, decide_true, decide_false, reduceIte, Int.reduceLT, Int.reduceLE, Int.reduceNeg, Int.reducePow, Int.reduceEq, and_self, and_true, true_and, hd', hb', atI_0, atI_1, e4, e1, e2, e3, List.getElem?_set_self h0, List.getElem?_set_ne (show (0 : Nat) ≠ 1 by decide), List.length_map, hl, hm, Int.ofNat_lt]
    have e5 : xs[at_]? = none := List.getElem?_eq_none (by omega)
    simp only [dr, e5, boxC, Int.natCast_add, Int.natCast_one]
/-! ## calls with the box -/
theorem box_ne {M : Mem} {b d at_ : Nat} {xs : List Int} (hb : M[b]? = some (boxC d at_)) (hd : M[d]? = some (digC xs)) : b ≠ d := by
  rintro rfl
  rw [hb] at hd
  unfold boxC digC at hd
  cases xs with
  | nil => simp at hd
  | cons x r => simp at hd
theorem refs_box {d at_ : Nat} : (boxC d at_).refs = [d] := by simp [boxC, Cell.refs, D.refsL, D.refs]
theorem refs_dig {xs : List Int} : (digC xs).refs = [] := refsL_pure _ (pures_ints xs)
theorem ren_box {f : Nat → Option Nat} {d e at_ : Nat} (h : f d = some e) : (boxC d at_).ren f = some (boxC e at_) := by simp [boxC, Cell.ren, D.rens, D.ren, h]
theorem ren_dig {f : Nat → Option Nat} {xs : List Int} : (digC xs).ren f = some (digC xs) := by simp [digC, Cell.ren, rens_pure _ (pures_ints xs)]
theorem refs_lst {ds : List D} (h : D.pures ds = true) : (Cell.lst ds).refs = [] := refsL_pure _ h
theorem ren_lst {f : Nat → Option Nat} {ds : List D} (h : D.pures ds = true) : (Cell.lst ds).ren f = some (.lst ds) := by simp [Cell.ren, rens_pure _ h]
theorem set_id {M : Mem} {n : Nat} {c : Cell} (h : M[n]? = some c) : M.set n c = M := by
  obtain ⟨hn, e⟩ := List.getElem?_eq_some_iff.mp h
  rw [← e]
  exact List.set_getElem_self hn
section
variable {run : Nat → List D → Mem → R D} {f b d at_ at' : Nat} {xs : List Int} {ds : List D} {M : Mem} {v : D} {g : Mem}
theorem reach_box (hb : M[b]? = some (boxC d at_)) (hd : M[d]? = some (digC xs)) : reach M walkF [b] [] = [b, d] := by
  have ne := box_ne hb hd
  rw [wF]
  simp [reach, hb, hd, refs_box, refs_dig, ne, ne.symm, reach_nil]
theorem enter_box (hb : M[b]? = some (boxC d at_)) (hd : M[d]? = some (digC xs)) : subM M (posL [b, d]) [b, d] = some [boxC 1 at_, digC xs] := by
  have ne := box_ne hb hd
  have e : posL [b, d] d = some 1 := by simp [posL, ne]
  simp [subM, hb, hd, ren_box e, ren_dig]
theorem leave_box (hb : M[b]? = some (boxC d at_)) (hd : M[d]? = some (digC xs)) (hv : v.pure = true) : leave [b, d] [v] M (boxC 1 at' :: digC xs :: g) = some ([v], M.set b (boxC d at')) := by
  have ne := box_ne hb hd
  have h1 : D.pures [v] = true := by simp [D.pures, hv]
  have en : newC 2 [v] (boxC 1 at' :: digC xs :: g) = [] := by
    unfold newC
    rw [refsL_pure [v] h1, wF, List.nil_append]
    simp [List.range_succ, reach, refs_box, refs_dig, reach_nil]
  have e1 : backG [b, d] [] M.length 1 = some d := by simp [backG]
  simp only [leave, List.length_cons, List.length_nil, Nat.reduceAdd, en, rens_pure [v] h1, Option.bind_some]
  rw [show List.range 2 = [0, 1] from rfl]
  simp only [subM, List.getElem?_cons_zero, List.getElem?_cons_succ, Option.bind_some, ren_box e1, ren_dig, Option.map_some, setAll, List.append_nil]
  rw [set_id (c := digC xs) (by rw [List.getElem?_set_ne ne]; exact hd)]
theorem callP_box (hb : M[b]? = some (boxC d at_)) (hd : M[d]? = some (digC xs)) (hp : D.pures ds = true) (h : run f (.cell 0 :: ds) [boxC 1 at_, digC xs] = .ok v (boxC 1 at' :: digC xs :: g)) (hv : v.pure = true) :
    callP run f (.cell b :: ds) M = .ok v (M.set b (boxC d at')) := by
  have e0 : D.refsL (.cell b :: ds) = [b] := by simp [D.refsL, D.refs, refsL_pure ds hp]
  have e1 : D.rens (posL [b, d]) (.cell b :: ds) = some (.cell 0 :: ds) := by simp [D.rens, D.ren, rens_pure ds hp, posL]
  simp only [callP, e0, reach_box hb hd, e1, enter_box hb hd, h, leave_box hb hd hv]
/-- .. whose value is a new list -/
theorem callP_boxL {n : Nat} {ps : List D} (hb : M[b]? = some (boxC d at_)) (hd : M[d]? = some (digC xs)) (hp : D.pures ds = true) (h : run f (.cell 0 :: ds) [boxC 1 at_, digC xs] = .ok (.cell (n + 2)) (boxC 1 at' :: digC xs :: g)) (hn : g[n]? = some (.lst ps)) (hs : D.pures ps = true) :
    callP run f (.cell b :: ds) M = .ok (.cell M.length) (M.set b (boxC d at') ++ [.lst ps]) := by
  have ne := box_ne hb hd
  have e0 : D.refsL (.cell b :: ds) = [b] := by simp [D.refsL, D.refs, refsL_pure ds hp]
  have e1 : D.rens (posL [b, d]) (.cell b :: ds) = some (.cell 0 :: ds) := by simp [D.rens, D.ren, rens_pure ds hp, posL]
  have en : newC 2 [.cell (n + 2)] (boxC 1 at' :: digC xs :: g) = [n + 2] := by
    unfold newC
    rw [wF]
    simp [D.refsL, D.refs, List.range_succ, reach, hn, refs_lst hs, refs_box, refs_dig, reach_nil]
  have e2 : backG [b, d] [n + 2] M.length 1 = some d := by simp [backG]
  have e3 : backG [b, d] [n + 2] M.length (n + 2) = some M.length := by simp [backG, posL]
  have e4 : leave [b, d] [.cell (n + 2)] M (boxC 1 at' :: digC xs :: g) = some ([.cell M.length], M.set b (boxC d at') ++ [.lst ps]) := by
    simp only [leave, List.length_cons, List.length_nil, Nat.reduceAdd, en, Option.bind_some, D.rens, D.ren, e3, Option.map_some]
    rw [show List.range 2 = [0, 1] from rfl]
    simp only [subM, List.getElem?_cons_zero, List.getElem?_cons_succ, Option.bind_some, ren_box e2, ren_dig, Option.map_some, setAll, hn, ren_lst hs]
    rw [set_id (c := digC xs) (by rw [List.getElem?_set_ne ne]; exact hd)]
  simp only [callP, e0, reach_box hb hd, e1, enter_box hb hd, h, e4]
end
theorem s_draw {G : Pg} (hG : G.fn 1 = some b__law_draw) {k : Nat} (hk : 1 ≤ k) {b d at_ : Nat} {xs : List Int} {m : Int} (hm : 0 < m) (ha : at_ < 1000000000000) {M : Mem} (hb : M[b]? = some (boxC d at_)) (hd : M[d]? = some (digC xs)) :
    callP (runF G k) 1 [.cell b, .int m] M = .ok (.int (dr xs at_ m)) (M.set b (boxC d (at_ + 1))) := by
  obtain ⟨k, rfl, _⟩ := k_succ hk
  exact callP_box (g := []) hb hd rfl (run_draw hG hm ha rfl rfl) rfl
/-- one of these -/
def gt (ds : List D) (i : Int) : D := ds.getD i.toNat .non
theorem atI_gt {ds : List D} {i : Int} (h0 : 0 ≤ i) (h : i < ds.length) : atI ds i = some (gt ds i) := by
  obtain ⟨n, rfl⟩ := Int.eq_ofNat_of_zero_le h0
  have hn : n < ds.length := by omega
  rw [atI_nat hn]
  simp [gt, hn]
theorem gt_mem {ds : List D} {i : Int} (h0 : 0 ≤ i) (h : i < ds.length) : gt ds i ∈ ds := by
  obtain ⟨n, rfl⟩ := Int.eq_ofNat_of_zero_le h0
  have hn : n < ds.length := by omega
  simp [gt, hn]
theorem pure_mem {d : D} : ∀ {ds : List D}, D.pures ds = true → d ∈ ds → d.pure = true
  | [], _, h => by cases h
  | e :: r, hp, h => by
    simp only [D.pures, Bool.and_eq_true] at hp
    rcases List.mem_cons.mp h with rfl | h
    · exact hp.1
    · exact pure_mem hp.2 h
theorem s_pick {G : Pg} (hG : G.fn 1 = some b__law_draw) (hG2 : G.fn 2 = some b__law_pick) {k : Nat} (hk : 2 ≤ k) {b d t at_ : Nat} {xs : List Int} {ds : List D} (hl : 0 < ds.length) (hs : D.pures ds = true) (ha : at_ < 1000000000000) {M : Mem} (hb : M[b]? = some (boxC d at_)) (hd : M[d]? = some (digC xs)) (ht : M[t]? = some (.lst ds)) (hbt : b ≠ t) (hdt : d ≠ t) :
    callP (runF G k) 2 [.cell b, .cell t] M = .ok (gt ds (dr xs at_ ds.length)) (M.set b (boxC d (at_ + 1))) := by
  obtain ⟨k, rfl, hk'⟩ := k_succ hk
  have ne := box_ne hb hd
  have hz : (0 : Int) < ds.length := by omega
  have lo := dr_lo (xs := xs) (at_ := at_) hz
  have hi := dr_hi (xs := xs) (at_ := at_) hz
  have pv : (gt ds (dr xs at_ ds.length)).pure = true := pure_mem hs (gt_mem lo hi)
  generalize hv : gt ds (dr xs at_ ds.length) = v at pv
  have e0 : D.refsL [.cell b, .cell t] = [b, t] := rfl
  have er : reach M walkF [b, t] [] = [b, d, t] := by
    rw [wF]
    simp [reach, hb, hd, ht, refs_box, refs_dig, refs_lst hs, ne, ne.symm, hbt, hbt.symm, hdt, hdt.symm, reach_nil]
  have p1 : posL [b, d, t] d = some 1 := by simp [posL, ne]
  have p2 : posL [b, d, t] t = some 2 := by simp [posL, hbt, hdt]
  have p0 : posL [b, d, t] b = some 0 := by simp [posL]
  have e1 : D.rens (posL [b, d, t]) [.cell b, .cell t] = some [.cell 0, .cell 2] := by simp [D.rens, D.ren, p2, p0]
  have e2 : subM M (posL [b, d, t]) [b, d, t] = some [boxC 1 at_, digC xs, .lst ds] := by simp [subM, hb, hd, ht, ren_box p1, ren_dig, ren_lst hs]
  have dw := s_draw hG hk' hz ha (M := [boxC 1 at_, digC xs, .lst ds]) (b := 0) (d := 1) rfl rfl
  have run : runF G (k + 1) 2 [.cell 0, .cell 2] [boxC 1 at_, digC xs, .lst ds] = .ok v [boxC 1 (at_ + 1), digC xs, .lst ds] := by
    rw [run_of hG2 rfl]
    simp only [b__law_pick, v_dcomp, v_gget, v_gin, v_gix2, i_enuE, i_zipE, lstC_f, ixC_f, m_extendT, ok_dcomp, ok_gget, ok_gin, ok_gix2, pt_dcomp, pt_gget, pt_gin, pt_gix2, x_bind, x_bindS, x_seq, x_seqR, x_seqB, x_seqC, x_nil, x_cons, x_asg, x_setx, x_aug, x_exp, x_ret, x_retn, x_iff, x_forr, x_brk, x_cont, x_pass, v_var, v_con, v_glo, v_gix, v_tup, v_lst, v_dis, v_bin, v_neg, v_cmp, v_cmp2, v_not, v_and, v_or, v_ite, v_call, v_blt, v_mth, v_ix, v_sl, v_comp, es_nil, es_cons, es_star, p_nop, p_e, i_rng, i_e, cs_nil, cs_cons, tt_e, tt_cmp, tt_cmp2, tt_not, tt_and, tt_or, tt_ite, valO_some, ofO_some, noE_ok, fin_rt, fin_nx, bl_tt, bl_ff, bl_tf, bl_ft, asgT, asgTs, wipeR, lst_C, dic_C, lstC_l, lstC_d, dicC_l, dicC_d, d_addI, d_addS, d_addT, d_addL, d_sub, d_mul, d_fdiv, d_mod, d_augI, d_augSub, d_augL, c_eqI, c_eqS, c_neI, c_neS, c_lt, c_le, c_gt, c_ge, c_isn, c_isnn, c_isb, c_isnb, c_in, c_nin, in_tup, in_dic, eqF_S, eqF_I, tr_non, tr_bl, tr_int, tr_str, tr_tup, tr_rol, truC_l, truC_d, tr_cell, isi_non, isi_bl, isi_int, isi_str, isi_tup, isi_rol, isiC_l, isiC_d, isi_cell, isiT, isNonD, isBlD, ix_tup, ix_rol, ixC_l, ixC_d, ix_cell, sl_tup, sl_rol, sl_cell, setC_l, setC_d, set_cell, key_i, key_s, part_i, star_tup, star_rol, star_cell, it_tup, it_rol, it_cell, b_lenT, b_lenR, b_lenS, lenC_l, lenC_d, b_lenC, b_intI, b_intB, b_tupT, b_tupR, b_tupC, b_lstT, b_lstR, b_lstC, b_dict, b_isi, mo_join, mo_get, mo_append, mo_extend, mo_pop, mo_index, isStr_s, m_append, m_extend, m_pop, m_index, m_joinC, m_get1, m_get2, catL_ok, augL_ok, dicL_ok, appL_ok, extL_ok, capT_ok, capL_ok, le_big, lt_big, ok_var, ok_con, ok_glo, ok_gix, ok_tup, ok_lst, ok_dis, ok_bin, ok_neg, ok_cmp, ok_cmp2, ok_not, ok_and, ok_or, ok_ite, ok_call, ok_blt, ok_mth, ok_ix, ok_sl, ok_comp, pt_var, pt_con, pt_glo, pt_tup, pt_lst, pt_bin, pt_call, pt_blt, pt_mth, pt_ix, pt_sl, pt_comp, List.getElem?_cons_zero, List.getElem?_cons_succ, List.set_cons_zero, List.set_cons_succ, List.map_cons, List.map_nil, List.replicate_succ, List.replicate_zero, List.cons_append, List.nil_append, List.length_cons, List.length_nil, List.append_nil, Option.bind_some, Option.bind_none, Option.map_some, Option.map_none, Option.isSome_some, Option.isSome_none, Nat.reduceAdd, Nat.reduceSub, Nat.reduceLeDiff, Nat.reduceEqDiff, Nat.reduceLT, if_true, if_false, Bool.false_eq_true, Bool.and_true, Bool.true_and, Bool.and_false, Bool.false_and, Bool.not_true, Bool.not_false, Bool.or_true, Bool.true_or, Bool.or_false, Bool.false_or, Bool.and_self, ite_true, ite_false, decide_true, decide_false, reduceIte, Int.reduceLT, Int.reduceLE, Int.reduceNeg, Int.reducePow, Int.reduceEq, and_self, and_true, true_and, dw, atI_gt lo hi, hv]
  have h1 : D.pures [v] = true := by simp [D.pures, pv]
  have en : newC 3 [v] [boxC 1 (at_ + 1), digC xs, .lst ds] = [] := by
    unfold newC
    rw [refsL_pure [v] h1, wF, List.nil_append]
    simp [List.range_succ, reach, refs_box, refs_dig, refs_lst hs, reach_nil]
  have g1 : backG [b, d, t] [] M.length 1 = some d := by simp [backG]
  have lv : leave [b, d, t] [v] M [boxC 1 (at_ + 1), digC xs, .lst ds] = some ([v], M.set b (boxC d (at_ + 1))) := by
    simp only [leave, List.length_cons, List.length_nil, Nat.reduceAdd, en, rens_pure [v] h1, Option.bind_some]
    rw [show List.range 3 = [0, 1, 2] from rfl]
    simp only [subM, List.getElem?_cons_zero, List.getElem?_cons_succ, Option.bind_some, ren_box g1, ren_dig, ren_lst hs, Option.map_some, setAll, List.append_nil]
    have q1 : (M.set b (boxC d (at_ + 1))).set d (digC xs) = M.set b (boxC d (at_ + 1)) := set_id (by rw [List.getElem?_set_ne ne]; exact hd)
    rw [q1, set_id (c := .lst ds) (by rw [List.getElem?_set_ne hbt]; exact ht)]
  simp only [callP, e0, er, e1, e2, run, lv]
/-! ## the digits -/
theorem forL_nil {asg : D → Rho → Option Rho} {body : Rho → Mem → R F} {ρ : Rho} {M : Mem} : forL asg body [] [] ρ M = .ok (.nx ρ) M := rfl
theorem rngD_at : ∀ {n : Nat} {lo : Int} {j : Nat} {d : D}, (rngD lo n)[j]? = some d → d = .int (lo + j) ∧ j < n
  | 0, lo, j, d, h => by simp [rngD] at h
  | n + 1, lo, 0, d, h => by simp [rngD] at h; exact ⟨by simp [h], by omega⟩
  | n + 1, lo, j + 1, d, h => by
    simp only [rngD, List.getElem?_cons_succ] at h
    obtain ⟨h1, h2⟩ := rngD_at h
    exact ⟨by rw [h1]; congr 1; push_cast; omega, by omega⟩
theorem rngD_len : ∀ {n : Nat} {lo : Int}, (rngD lo n).length = n
  | 0, _ => rfl
  | n + 1, lo => by simp [rngD, rngD_len]
theorem atI_ints {ns : List Int} {i : Nat} (h : i < ns.length) : atI (ns.map D.int) (i : Int) = some (.int ns[i]) := by
  rw [atI_nat (by simpa using h)]; simp
abbrev dgA : S := .asg (.nm 5) (.ite (.cmp .lt (.var 4) (.blt .len [(.var 0)])) (.ix (.var 0) (.var 4)) (.con (.int 0)))
abbrev dgB : S := .iff (.cmp .lt (.var 5) (.con (.int 0))) [.asg (.nm 5) (.bin .sub (.con (.int 1)) (.bin .mul (.con (.int 2)) (.var 5)))] []
abbrev dgC : List S := [.iff (.cmp .gt (.var 5) (.con (.int 0))) [.exp (.mth .append (.var 3) [(.bin .mod (.blt .int [(.var 5)]) (.con (.int 1009)))]), .asg (.nm 5) (.bin .fdiv (.var 5) (.con (.int 1009)))] []]
abbrev dgD : S := .asg (.nm 7) (.bin .mod (.blt .int [(.bin .add (.bin .add (.bin .mul (.var 5) (.con (.int 40699))) (.bin .mul (.var 4) (.con (.int 52769)))) (.con (.int 31)))]) (.con (.int 2147483399)))
abbrev dgE : List S := [.asg (.nm 7) (.bin .mod (.blt .int [(.bin .add (.bin .add (.bin .mul (.var 7) (.con (.int 40014))) (.bin .mul (.con (.int 11)) (.var 6))) (.con (.int 7)))]) (.con (.int 2147483563))), .exp (.mth .append (.var 3) [(.bin .mod (.blt .int [(.bin .fdiv (.var 7) (.con (.int 1013)))]) (.con (.int 1009)))])]
abbrev dgF : List S := [dgA, dgB, .iff (.cmp .ge (.var 5) (.con (.int 1000000000000000000))) [.forr (.nm 6) (.rng [(.con (.int 60))]) dgC] [dgD, .forr (.nm 6) (.rng [(.con (.int 12))]) dgE]]
theorem dg_eq : b__law_digits = ⟨3, 8, [.asg (.nm 3) (.lst []), .forr (.nm 4) (.rng [(.var 1), (.var 2)]) dgF, .ret (.var 3)]⟩ := rfl
/-- what stands between the turns -/
def DgI (ns : List Int) (n : Nat) (ρ : Rho) (M : Mem) : Prop := ∃ (xs : List Int) (c4 c5 c6 c7 : Option D), ρ = [some (.rol (ns.map .int)), some (.int 0), some (.int 63), some (.cell 0), c4, c5, c6, c7] ∧ M = [digC xs] ∧ xs.length ≤ n
theorem dig_app {xs : List Int} {a : Int} : Cell.lst (xs.map .int ++ [.int a]) = digC (xs ++ [a]) := by simp [digC]
section
variable {call : Nat → List D → Mem → R D} {con : Nat → Option D} {ns : List Int}
theorem mk1 {a : Int} : mulOk a 40699 = true := mulOk_r (by omega) (by omega)
theorem mk2 {a : Int} : mulOk a 52769 = true := mulOk_r (by omega) (by omega)
theorem mk3 {a : Int} : mulOk a 40014 = true := mulOk_r (by omega) (by omega)
theorem mk4 {a : Int} : mulOk 11 a = true := mulOk_l (by omega) (by omega)
theorem mk5 {a : Int} : mulOk 2 a = true := mulOk_l (by omega) (by omega)
theorem dgC_ok {n : Nat} {c4 c6 c7 : Option D} {xs : List Int} {c : Int} (hn : n ≤ 100000) (hx : xs.length ≤ n) :
    ∃ (ρ' : Rho) (M' : Mem), exS call con (.forr (.nm 6) (.rng [(.con (.int 60))]) dgC) [some (.rol (ns.map .int)), some (.int 0), some (.int 63), some (.cell 0), c4, some (.int c), c6, c7] [digC xs] = .ok (.nx ρ') M' ∧ DgI ns (n + 60) ρ' M' := by
  have r60 : rngI [digC xs] [.int 60] = .ok ([], rngD 0 60) [digC xs] := rfl
  obtain ⟨ρ', M', h1, h2⟩ := forL_inv (asg := asgT (.nm 6)) (body := exSs call con dgC) (srcs := []) (fun i ρ M => ∃ (ys : List Int) (e : Int) (e6 : Option D), ρ = [some (.rol (ns.map .int)), some (.int 0), some (.int 63), some (.cell 0), c4, some (.int e), e6, c7] ∧ M = [digC ys] ∧ ys.length ≤ n + i)
    (rngD 0 60) 0 _ [digC xs] ⟨xs, c, c6, rfl, rfl, hx⟩ (fun _ _ _ _ => rfl) (by
      rintro j d ρ M hj ⟨ys, e, e6, rfl, rfl, hy⟩
      obtain ⟨rfl, hj⟩ := rngD_at hj
      have hb : (ys.map D.int).length < big := lt_big (by rw [List.length_map]; omega)
      by_cases he : 0 < e
      · refine ⟨_, _, _, rfl, .inl ?_, ys ++ [e % 1009], e / 1009, some (.int (0 + (j : Int))), rfl, rfl, by simp; omega⟩
        rw [← dig_app]
        simp only [dgC, digC, v_dcomp, v_gget, v_gin, v_gix2, i_enuE, i_zipE, lstC_f, ixC_f, m_extendT, ok_dcomp, ok_gget, ok_gin, ok_gix2, pt_dcomp, pt_gget, pt_gin, pt_gix2, x_bind, x_bindS, x_seq, x_seqR, x_seqB, x_seqC, x_nil, x_cons, x_asg, x_setx, x_aug, x_exp, x_ret, x_retn, x_iff, x_forr, x_brk, x_cont, x_pass, v_var, v_con, v_glo, v_gix, v_tup, v_lst, v_dis, v_bin, v_neg, v_cmp, v_cmp2, v_not, v_and, v_or, v_ite, v_call, v_blt, v_mth, v_ix, v_sl, v_comp, es_nil, es_cons, es_star, p_nop, p_e, i_rng, i_e, cs_nil, cs_cons, tt_e, tt_cmp, tt_cmp2, tt_not, tt_and, tt_or, tt_ite, valO_some, ofO_some, noE_ok, fin_rt, fin_nx, bl_tt, bl_ff, bl_tf, bl_ft, asgT, asgTs, wipeR, lst_C, dic_C, lstC_l, lstC_d, dicC_l, dicC_d, d_addI, d_addS, d_addT, d_addL, d_sub, d_mul, d_fdiv, d_mod, d_augI, d_augSub, d_augL, c_eqI, c_eqS, c_neI, c_neS, c_lt, c_le, c_gt, c_ge, c_isn, c_isnn, c_isb, c_isnb, c_in, c_nin, in_tup, in_dic, eqF_S, eqF_I, tr_non, tr_bl, tr_int, tr_str, tr_tup, tr_rol, truC_l, truC_d, tr_cell, isi_non, isi_bl, isi_int, isi_str, isi_tup, isi_rol, isiC_l, isiC_d, isi_cell, isiT, isNonD, isBlD, ix_tup, ix_rol, ixC_l, ixC_d, ix_cell, sl_tup, sl_rol, sl_cell, setC_l, setC_d, set_cell, key_i, key_s, part_i, star_tup, star_rol, star_cell, it_tup, it_rol, it_cell, b_lenT, b_lenR, b_lenS, lenC_l, lenC_d, b_lenC, b_intI, b_intB, b_tupT, b_tupR, b_tupC, b_lstT, b_lstR, b_lstC, b_dict, b_isi, mo_join, mo_get, mo_append, mo_extend, mo_pop, mo_index, isStr_s, m_append, m_extend, m_pop, m_index, m_joinC, m_get1, m_get2, catL_ok, augL_ok, dicL_ok, appL_ok, extL_ok, capT_ok, capL_ok, le_big, lt_big, ok_var, ok_con, ok_glo, ok_gix, ok_tup, ok_lst, ok_dis, ok_bin, ok_neg, ok_cmp, ok_cmp2, ok_not, ok_and, ok_or, ok_ite, ok_call, ok_blt, ok_mth, ok_ix, ok_sl, ok_comp, pt_var, pt_con, pt_glo, pt_tup, pt_lst, pt_bin, pt_call, pt_blt, pt_mth, pt_ix, pt_sl, pt_comp, List.getElem?_cons_zero, List.getElem?_cons_succ, List.set_cons_zero, List.set_cons_succ, List.map_cons, List.map_nil, List.replicate_succ, List.replicate_zero, List.cons_append, List.nil_append, List.length_cons, List.length_nil, List.append_nil, Option.bind_some, Option.bind_none, Option.map_some, Option.map_none, Option.isSome_some, Option.isSome_none, Nat.reduceAdd, Nat.reduceSub, Nat.reduceLeDiff, Nat.reduceEqDiff, Nat.reduceLT, if_true, if_false, Bool.false_eq_true, Bool.and_true, Bool.true_and, Bool.and_false, Bool.false_and, Bool.not_true, Bool.not_false, Bool.or_true, Bool.true_or, Bool.or_false, Bool.false_or, Bool.and_self, ite_true, ite_false, decide_true, decide_false, reduceIte, Int.reduceLT, Int.reduceLE, Int.reduceNeg, Int.reducePow, Int.reduceEq, and_self, and_true, true_and, he, hb]
      · refine ⟨_, _, _, rfl, .inl ?_, ys, e, some (.int (0 + (j : Int))), rfl, rfl, by omega⟩
        simp only [dgC, digC, v_dcomp, v_gget, v_gin, v_gix2, i_enuE, i_zipE, lstC_f, ixC_f, m_extendT, ok_dcomp, ok_gget, ok_gin, ok_gix2, pt_dcomp, pt_gget, pt_gin, pt_gix2, x_bind, x_bindS, x_seq, x_seqR, x_seqB, x_seqC, x_nil, x_cons, x_asg, x_setx, x_aug, x_exp, x_ret, x_retn, x_iff, x_forr, x_brk, x_cont, x_pass, v_var, v_con, v_glo, v_gix, v_tup, v_lst, v_dis, v_bin, v_neg, v_cmp, v_cmp2, v_not, v_and, v_or, v_ite, v_call, v_blt, v_mth, v_ix, v_sl, v_comp, es_nil, es_cons, es_star, p_nop, p_e, i_rng, i_e, cs_nil, cs_cons, tt_e, tt_cmp, tt_cmp2, tt_not, tt_and, tt_or, tt_ite, valO_some, ofO_some, noE_ok, fin_rt, fin_nx, bl_tt, bl_ff, bl_tf, bl_ft, asgT, asgTs, wipeR, lst_C, dic_C, lstC_l, lstC_d, dicC_l, dicC_d, d_addI, d_addS, d_addT, d_addL, d_sub, d_mul, d_fdiv, d_mod, d_augI, d_augSub, d_augL, c_eqI, c_eqS, c_neI, c_neS, c_lt, c_le, c_gt, c_ge, c_isn, c_isnn, c_isb, c_isnb, c_in, c_nin, in_tup, in_dic, eqF_S, eqF_I, tr_non, tr_bl, tr_int, tr_str, tr_tup, tr_rol, truC_l, truC_d, tr_cell, isi_non, isi_bl, isi_int, isi_str, isi_tup, isi_rol, isiC_l, isiC_d, isi_cell, isiT, isNonD, isBlD, ix_tup, ix_rol, ixC_l, ixC_d, ix_cell, sl_tup, sl_rol, sl_cell, setC_l, setC_d, set_cell, key_i, key_s, part_i, star_tup, star_rol, star_cell, it_tup, it_rol, it_cell, b_lenT, b_lenR, b_lenS, lenC_l, lenC_d, b_lenC, b_intI, b_intB, b_tupT, b_tupR, b_tupC, b_lstT, b_lstR, b_lstC, b_dict, b_isi, mo_join, mo_get, mo_append, mo_extend, mo_pop, mo_index, isStr_s, m_append, m_extend, m_pop, m_index, m_joinC, m_get1, m_get2, catL_ok, augL_ok, dicL_ok, appL_ok, extL_ok, capT_ok, capL_ok, le_big, lt_big, ok_var, ok_con, ok_glo, ok_gix, ok_tup, ok_lst, ok_dis, ok_bin, ok_neg, ok_cmp, ok_cmp2, ok_not, ok_and, ok_or, ok_ite, ok_call, ok_blt, ok_mth, ok_ix, ok_sl, ok_comp, pt_var, pt_con, pt_glo, pt_tup, pt_lst, pt_bin, pt_call, pt_blt, pt_mth, pt_ix, pt_sl, pt_comp, List.getElem?_cons_zero, List.getElem?_cons_succ, List.set_cons_zero, List.set_cons_succ, List.map_cons, List.map_nil, List.replicate_succ, List.replicate_zero, List.cons_append, List.nil_append, List.length_cons, List.length_nil, List.append_nil, Option.bind_some, Option.bind_none, Option.map_some, Option.map_none, Option.isSome_some, Option.isSome_none, Nat.reduceAdd, Nat.reduceSub, Nat.reduceLeDiff, Nat.reduceEqDiff, Nat.reduceLT, if_true, if_false, Bool.false_eq_true, Bool.and_true, Bool.true_and, Bool.and_false, Bool.false_and, Bool.not_true, Bool.not_false, Bool.or_true, Bool.true_or, Bool.or_false, Bool.false_or, Bool.and_self, ite_true, ite_false, decide_true, decide_false, reduceIte, Int.reduceLT, Int.reduceLE, Int.reduceNeg, Int.reducePow, Int.reduceEq, and_self, and_true, true_and, he])
  refine ⟨ρ', M', ?_, ?_⟩
  · simp only [x_forr, i_rng, es_cons, ok_con, v_con, es_nil, x_bind, r60, x_bindS]
    exact h1
  · obtain ⟨ys, e, e6, rfl, rfl, hy⟩ := h2
    exact ⟨ys, _, _, _, _, rfl, rfl, by rw [rngD_len] at hy; omega⟩
theorem dgE_ok {n : Nat} {c4 c5 c6 : Option D} {xs : List Int} {c : Int} (hn : n ≤ 100000) (hx : xs.length ≤ n) :
    ∃ (ρ' : Rho) (M' : Mem), exS call con (.forr (.nm 6) (.rng [(.con (.int 12))]) dgE) [some (.rol (ns.map .int)), some (.int 0), some (.int 63), some (.cell 0), c4, c5, c6, some (.int c)] [digC xs] = .ok (.nx ρ') M' ∧ DgI ns (n + 60) ρ' M' := by
  have r60 : rngI [digC xs] [.int 12] = .ok ([], rngD 0 12) [digC xs] := rfl
  obtain ⟨ρ', M', h1, h2⟩ := forL_inv (asg := asgT (.nm 6)) (body := exSs call con dgE) (srcs := []) (fun i ρ M => ∃ (ys : List Int) (e : Int) (e6 : Option D), ρ = [some (.rol (ns.map .int)), some (.int 0), some (.int 63), some (.cell 0), c4, c5, e6, some (.int e)] ∧ M = [digC ys] ∧ ys.length ≤ n + i)
    (rngD 0 12) 0 _ [digC xs] ⟨xs, c, c6, rfl, rfl, hx⟩ (fun _ _ _ _ => rfl) (by
      rintro j d ρ M hj ⟨ys, e, e6, rfl, rfl, hy⟩
      obtain ⟨rfl, hj⟩ := rngD_at hj
      have hb : (ys.map D.int).length < big := lt_big (by rw [List.length_map]; omega)
      refine ⟨_, _, _, rfl, .inl ?_, ys ++ [(e * 40014 + 11 * (0 + (j : Int)) + 7) % 2147483563 / 1013 % 1009], (e * 40014 + 11 * (0 + (j : Int)) + 7) % 2147483563, some (.int (0 + (j : Int))), rfl, rfl, by simp; omega⟩
      rw [← dig_app]
      simp only [dgE, digC, v_dcomp, v_gget, v_gin, v_gix2, i_enuE, i_zipE, lstC_f, ixC_f, m_extendT, ok_dcomp, ok_gget, ok_gin, ok_gix2, pt_dcomp, pt_gget, pt_gin, pt_gix2, x_bind, x_bindS, x_seq, x_seqR, x_seqB, x_seqC, x_nil, x_cons, x_asg, x_setx, x_aug, x_exp, x_ret, x_retn, x_iff, x_forr, x_brk, x_cont, x_pass, v_var, v_con, v_glo, v_gix, v_tup, v_lst, v_dis, v_bin, v_neg, v_cmp, v_cmp2, v_not, v_and, v_or, v_ite, v_call, v_blt, v_mth, v_ix, v_sl, v_comp, es_nil, es_cons, es_star, p_nop, p_e, i_rng, i_e, cs_nil, cs_cons, tt_e, tt_cmp, tt_cmp2, tt_not, tt_and, tt_or, tt_ite, valO_some, ofO_some, noE_ok, fin_rt, fin_nx, bl_tt, bl_ff, bl_tf, bl_ft, asgT, asgTs, wipeR, lst_C, dic_C, lstC_l, lstC_d, dicC_l, dicC_d, d_addI, d_addS, d_addT, d_addL, d_sub, d_mul, d_fdiv, d_mod, d_augI, d_augSub, d_augL, c_eqI, c_eqS, c_neI, c_neS, c_lt, c_le, c_gt, c_ge, c_isn, c_isnn, c_isb, c_isnb, c_in, c_nin, in_tup, in_dic, eqF_S, eqF_I, tr_non, tr_bl, tr_int, tr_str, tr_tup, tr_rol, truC_l, truC_d, tr_cell, isi_non, isi_bl, isi_int, isi_str, isi_tup, isi_rol, isiC_l, isiC_d, isi_cell, isiT, isNonD, isBlD, ix_tup, ix_rol, ixC_l, ixC_d, ix_cell, sl_tup, sl_rol, sl_cell, setC_l, setC_d, set_cell, key_i, key_s, part_i, star_tup, star_rol, star_cell, it_tup, it_rol, it_cell, b_lenT, b_lenR, b_lenS, lenC_l, lenC_d, b_lenC, b_intI, b_intB, b_tupT, b_tupR, b_tupC, b_lstT, b_lstR, b_lstC, b_dict, b_isi, mo_join, mo_get, mo_append, mo_extend, mo_pop, mo_index, isStr_s, m_append, m_extend, m_pop, m_index, m_joinC, m_get1, m_get2, catL_ok, augL_ok, dicL_ok, appL_ok, extL_ok, capT_ok, capL_ok, le_big, lt_big, ok_var, ok_con, ok_glo, ok_gix, ok_tup, ok_lst, ok_dis, ok_bin, ok_neg, ok_cmp, ok_cmp2, ok_not, ok_and, ok_or, ok_ite, ok_call, ok_blt, ok_mth, ok_ix, ok_sl, ok_comp, pt_var, pt_con, pt_glo, pt_tup, pt_lst, pt_bin, pt_call, pt_blt, pt_mth, pt_ix, pt_sl, pt_comp, List.getElem?_cons_zero, List.getElem?_cons_succ, List.set_cons_zero, List.set_cons_succ, List.map_cons, List.map_nil, List.replicate_succ, List.replicate_zero, List.cons_append, List.nil_append, List.length_cons, List.length_nil, List.append_nil, Option.bind_some, Option.bind_none, Option.map_some, Option.map_none, Option.isSome_some, Option.isSome_none, Nat.reduceAdd, Nat.reduceSub, Nat.reduceLeDiff, Nat.reduceEqDiff, Nat.reduceLT, if_true, if_false, Bool.false_eq_true, Bool.and_true, Bool.true_and, Bool.and_false, Bool.false_and, Bool.not_true, Bool.not_false, Bool.or_true, Bool.true_or, Bool.or_false, Bool.false_or, Bool.and_self, ite_true, ite_false, decide_true, decide_false, reduceIte, Int.reduceLT, Int.reduceLE, Int.reduceNeg, Int.reducePow, Int.reduceEq, and_self, and_true, true_and, mk3, mk4, hb])
  refine ⟨ρ', M', ?_, ?_⟩
  · simp only [x_forr, i_rng, es_cons, ok_con, v_con, es_nil, x_bind, r60, x_bindS]
    exact h1
  · obtain ⟨ys, e, e6, rfl, rfl, hy⟩ := h2
    exact ⟨ys, _, _, _, _, rfl, rfl, by rw [rngD_len] at hy; omega⟩
theorem dgAB_ok {j : Nat} {c5 c6 c7 : Option D} {M : Mem} : ∃ c : Int, ∀ r, exSs call con (dgA :: dgB :: r) [some (.rol (ns.map .int)), some (.int 0), some (.int 63), some (.cell 0), some (.int (0 + (j : Int))), c5, c6, c7] M = exSs call con r [some (.rol (ns.map .int)), some (.int 0), some (.int 63), some (.cell 0), some (.int (0 + (j : Int))), some (.int c), c6, c7] M := by
  rw [show (0 : Int) + (j : Int) = j by omega]
  have key : ∃ c0 : Int, exS call con dgA [some (.rol (ns.map .int)), some (.int 0), some (.int 63), some (.cell 0), some (.int (j : Int)), c5, c6, c7] M = .ok (.nx [some (.rol (ns.map .int)), some (.int 0), some (.int 63), some (.cell 0), some (.int (j : Int)), some (.int c0), c6, c7]) M := by
    by_cases h : j < ns.length
    · refine ⟨ns[j], ?_⟩
      simp only [v_dcomp, v_gget, v_gin, v_gix2, i_enuE, i_zipE, lstC_f, ixC_f, m_extendT, ok_dcomp, ok_gget, ok_gin, ok_gix2, pt_dcomp, pt_gget, pt_gin, pt_gix2, x_bind, x_bindS, x_seq, x_seqR, x_seqB, x_seqC, x_nil, x_cons, x_asg, x_setx, x_aug, x_exp, x_ret, x_retn, x_iff, x_forr, x_brk, x_cont, x_pass, v_var, v_con, v_glo, v_gix, v_tup, v_lst, v_dis, v_bin, v_neg, v_cmp, v_cmp2, v_not, v_and, v_or, v_ite, v_call, v_blt, v_mth, v_ix, v_sl, v_comp, es_nil, es_cons, es_star, p_nop, p_e, i_rng, i_e, cs_nil, cs_cons, tt_e, tt_cmp, tt_cmp2, tt_not, tt_and, tt_or, tt_ite, valO_some, ofO_some, noE_ok, fin_rt, fin_nx, bl_tt, bl_ff, bl_tf, bl_ft, asgT, asgTs, wipeR, lst_C, dic_C, lstC_l, lstC_d, dicC_l, dicC_d, d_addI, d_addS, d_addT, d_addL, d_sub, d_mul, d_fdiv, d_mod, d_augI, d_augSub, d_augL, c_eqI, c_eqS, c_neI, c_neS, c_lt, c_le, c_gt, c_ge, c_isn, c_isnn, c_isb, c_isnb, c_in, c_nin, in_tup, in_dic, eqF_S, eqF_I, tr_non, tr_bl, tr_int, tr_str, tr_tup, tr_rol, truC_l, truC_d, tr_cell, isi_non, isi_bl, isi_int, isi_str, isi_tup, isi_rol, isiC_l, isiC_d, isi_cell, isiT, isNonD, isBlD, ix_tup, ix_rol, ixC_l, ixC_d, ix_cell, sl_tup, sl_rol, sl_cell, setC_l, setC_d, set_cell, key_i, key_s, part_i, star_tup, star_rol, star_cell, it_tup, it_rol, it_cell, b_lenT, b_lenR, b_lenS, lenC_l, lenC_d, b_lenC, b_intI, b_intB, b_tupT, b_tupR, b_tupC, b_lstT, b_lstR, b_lstC, b_dict, b_isi, mo_join, mo_get, mo_append, mo_extend, mo_pop, mo_index, isStr_s, m_append, m_extend, m_pop, m_index, m_joinC, m_get1, m_get2, catL_ok, augL_ok, dicL_ok, appL_ok, extL_ok, capT_ok, capL_ok, le_big, lt_big, ok_var, ok_con, ok_glo, ok_gix, ok_tup, ok_lst, ok_dis, ok_bin, ok_neg, ok_cmp, ok_cmp2, ok_not, ok_and, ok_or, ok_ite, ok_call, ok_blt, ok_mth, ok_ix, ok_sl, ok_comp, pt_var, pt_con, pt_glo, pt_tup, pt_lst, pt_bin, pt_call, pt_blt, pt_mth, pt_ix, pt_sl, pt_comp, List.getElem?_cons_zero, List.getElem?_cons_succ, List.set_cons_zero, List.set_cons_succ, List.map_cons, List.map_nil, List.replicate_succ, List.replicate_zero, List.cons_append, List.nil_append, List.length_cons, List.length_nil, List.append_nil, Option.bind_some, Option.bind_none, Option.map_some, Option.map_none, Option.isSome_some, Option.isSome_none, Nat.reduceAdd, Nat.reduceSub, Nat.reduceLeDiff, Nat.reduceEqDiff, Nat.reduceLT, if_true, if_false, Bool.false_eq_true, Bool.and_true, Bool.true_and, Bool.and_false, Bool.false_and, Bool.not_true, Bool.not_false, Bool.or_true, Bool.true_or, Bool.or_false, Bool.false_or, Bool.and_self, ite_true, ite_false, decide_true, decide_false, reduceIte, Int.reduceLT, Int.reduceLE, Int.reduceNeg, Int.reducePow, Int.reduceEq, and_self, and_true, true_and, List.length_map, Int.ofNat_lt, h, atI_ints h]
    · refine ⟨0, ?_⟩
      simp only [v_dcomp, v_gget, v_gin, v_gix2, i_enuE, i_zipE, lstC_f, ixC_f, m_extendT, ok_dcomp, ok_gget, ok_gin, ok_gix2, pt_dcomp, pt_gget, pt_gin, pt_gix2, x_bind, x_bindS, x_seq, x_seqR, x_seqB, x_seqC, x_nil, x_cons, x_asg, x_setx, x_aug, x_exp, x_ret, x_retn, x_iff, x_forr, x_brk, x_cont, x_pass, v_var, v_con, v_glo, v_gix, v_tup, v_lst, v_dis, v_bin, v_neg, v_cmp, v_cmp2, v_not, v_and, v_or, v_ite, v_call, v_blt, v_mth, v_ix, v_sl, v_comp, es_nil, es_cons, es_star, p_nop, p_e, i_rng, i_e, cs_nil, cs_cons, tt_e, tt_cmp, tt_cmp2, tt_not, tt_and, tt_or, tt_ite, valO_some, ofO_some, noE_ok, fin_rt, fin_nx, bl_tt, bl_ff, bl_tf, bl_ft, asgT, asgTs, wipeR, lst_C, dic_C, lstC_l, lstC_d, dicC_l, dicC_d, d_addI, d_addS, d_addT, d_addL, d_sub, d_mul, d_fdiv, d_mod, d_augI, d_augSub, d_augL, c_eqI, c_eqS, c_neI, c_neS, c_lt, c_le, c_gt, c_ge, c_isn, c_isnn, c_isb, c_isnb, c_in, c_nin, in_tup, in_dic, eqF_S, eqF_I, tr_non, tr_bl, tr_int, tr_str, tr_tup, tr_rol, truC_l, truC_d, tr_cell, isi_non, isi_bl, isi_int, isi_str, isi_tup, isi_rol, isiC_l, isiC_d, isi_cell, isiT, isNonD, isBlD, ix_tup, ix_rol, ixC_l, ixC_d, ix_cell, sl_tup, sl_rol, sl_cell, setC_l, setC_d, set_cell, key_i, key_s, part_i, star_tup, star_rol, star_cell, it_tup, it_rol, it_cell, b_lenT, b_lenR, b_lenS, lenC_l, lenC_d, b_lenC, b_intI, b_intB, b_tupT, b_tupR, b_tupC, b_lstT, b_lstR, b_lstC, b_dict, b_isi, mo_join, mo_get, mo_append, mo_extend, mo_pop, mo_index, isStr_s, m_append, m_extend, m_pop, m_index, m_joinC, m_get1, m_get2, catL_ok, augL_ok, dicL_ok, appL_ok, extL_ok, capT_ok, capL_ok, le_big, lt_big, ok_var, ok_con, ok_glo, ok_gix, ok_tup, ok_lst, ok_dis, ok_bin, ok_neg, ok_cmp, ok_cmp2, ok_not, ok_and, ok_or, ok_ite, ok_call, ok_blt, ok_mth, ok_ix, ok_sl, ok_comp, pt_var, pt_con, pt_glo, pt_tup, pt_lst, pt_bin, pt_call, pt_blt, pt_mth, pt_ix, pt_sl, pt_comp, List.getElem?_cons_zero, List.getElem?_cons_succ, List.set_cons_zero, List.set_cons_succ, List.map_cons, List.map_nil, List.replicate_succ, List.replicate_zero, List.cons_append, List.nil_append, List.length_cons, List.length_nil, List.append_nil, Option.bind_some, Option.bind_none, Option.map_some, Option.map_none, Option.isSome_some, Option.isSome_none, Nat.reduceAdd, Nat.reduceSub, Nat.reduceLeDiff, Nat.reduceEqDiff, Nat.reduceLT, if_true, if_false, Bool.false_eq_true, Bool.and_true, Bool.true_and, Bool.and_false, Bool.false_and, Bool.not_true, Bool.not_false, Bool.or_true, Bool.true_or, Bool.or_false, Bool.false_or, Bool.and_self, ite_true, ite_false, decide_true, decide_false, reduceIte, Int.reduceLT, Int.reduceLE, Int.reduceNeg, Int.reducePow, Int.reduceEq, and_self, and_true, true_and, List.length_map, Int.ofNat_lt, h]
  obtain ⟨c0, key⟩ := key
  by_cases h : c0 < 0
  · refine ⟨1 - 2 * c0, fun r => ?_⟩
    rw [x_cons, key, x_seq, x_cons]
    simp only [x_iff, tt_cmp, v_var, v_con, x_bind, c_lt, valO_some, x_bindS, x_cons, x_nil, x_asg, v_bin, d_mul, d_sub, mk5, ofO_some, asgT, x_seq, List.getElem?_cons_zero, List.getElem?_cons_succ, List.set_cons_zero, List.set_cons_succ, h, decide_true, if_true]
  · refine ⟨c0, fun r => ?_⟩
    rw [x_cons, key, x_seq, x_cons]
    simp only [x_iff, tt_cmp, v_var, v_con, x_bind, c_lt, valO_some, x_bindS, x_cons, x_nil, x_seq, List.getElem?_cons_zero, List.getElem?_cons_succ, h, decide_false, Bool.false_eq_true, if_false]
end
theorem run_digits {G : Pg} (hG : G.fn 0 = some b__law_digits) {k : Nat} (ns : List Int) : ∃ xs : List Int, runF G (k + 1) 0 [.rol (ns.map .int), .int 0, .int 63] [] = .ok (.cell 0) [digC xs] := by
  rw [run_of hG rfl, dg_eq]
  have r63 : rngI [digC []] [.int 0, .int 63] = .ok ([], rngD 0 63) [digC []] := rfl
  obtain ⟨ρ', M', h1, xs, c4, c5, c6, c7, rfl, rfl, _⟩ := forL_inv (asg := asgT (.nm 4)) (body := exSs (callP (runF G k)) G.con dgF) (srcs := []) (fun i ρ M => DgI ns (60 * i) ρ M) (rngD 0 63) 0
    [some (.rol (ns.map .int)), some (.int 0), some (.int 63), some (.cell 0), none, none, none, none] [digC []] ⟨[], _, _, _, _, rfl, rfl, by simp⟩ (fun _ _ _ _ => rfl) (by
      rintro j d ρ M hj ⟨xs, c4, c5, c6, c7, rfl, rfl, hx⟩
      obtain ⟨rfl, hj⟩ := rngD_at hj
      obtain ⟨c, hc⟩ := dgAB_ok (call := callP (runF G k)) (con := G.con) (ns := ns) (j := j) (c5 := c5) (c6 := c6) (c7 := c7) (M := [digC xs])
      by_cases hz : 1000000000000000000 ≤ c
      · obtain ⟨ρ', M', h1, h2⟩ := dgC_ok (call := callP (runF G k)) (con := G.con) (ns := ns) (c4 := some (.int (0 + (j : Int)))) (c6 := c6) (c7 := c7) (c := c) (n := 60 * (0 + j)) (by omega) hx
        refine ⟨_, ρ', M', rfl, .inl ?_, by rw [show 60 * (0 + j + 1) = 60 * (0 + j) + 60 by omega]; exact h2⟩
        show exSs _ _ (dgA :: dgB :: _) _ _ = _
        refine (hc _).trans ?_
        rw [x_cons, x_iff]
        simp only [tt_cmp, v_var, v_con, x_bind, c_ge, valO_some, x_bindS, x_cons, x_nil, x_seq, List.getElem?_cons_zero, List.getElem?_cons_succ, hz, decide_true, if_true, h1]
      · obtain ⟨ρ', M', h1, h2⟩ := dgE_ok (call := callP (runF G k)) (con := G.con) (ns := ns) (c4 := some (.int (0 + (j : Int)))) (c5 := some (.int c)) (c6 := c6) (c := (c * 40699 + (0 + (j : Int)) * 52769 + 31) % 2147483399) (n := 60 * (0 + j)) (by omega) hx
        refine ⟨_, ρ', M', rfl, .inl ?_, by rw [show 60 * (0 + j + 1) = 60 * (0 + j) + 60 by omega]; exact h2⟩
        show exSs _ _ (dgA :: dgB :: _) _ _ = _
        refine (hc _).trans ?_
        have hd : exS (callP (runF G k)) G.con dgD [some (.rol (ns.map .int)), some (.int 0), some (.int 63), some (.cell 0), some (.int (0 + (j : Int))), some (.int c), c6, c7] [digC xs] = .ok (.nx [some (.rol (ns.map .int)), some (.int 0), some (.int 63), some (.cell 0), some (.int (0 + (j : Int))), some (.int c), c6, some (.int ((c * 40699 + (0 + (j : Int)) * 52769 + 31) % 2147483399))]) [digC xs] := by
          simp only [v_dcomp, v_gget, v_gin, v_gix2, i_enuE, i_zipE, lstC_f, ixC_f, m_extendT, ok_dcomp, ok_gget, ok_gin, ok_gix2, pt_dcomp, pt_gget, pt_gin, pt_gix2, x_bind, x_bindS, x_seq, x_seqR, x_seqB, x_seqC, x_nil, x_cons, x_asg, x_setx, x_aug, x_exp, x_ret, x_retn, x_iff, x_forr, x_brk, x_cont, x_pass, v_var, v_con, v_glo, v_gix, v_tup, v_lst, v_dis, v_bin, v_neg, v_cmp, v_cmp2, v_not, v_and, v_or, v_ite, v_call, v_blt, v_mth, v_ix, v_sl, v_comp, es_nil, es_cons, es_star, p_nop, p_e, i_rng, i_e, cs_nil, cs_cons, tt_e, tt_cmp, tt_cmp2, tt_not, tt_and, tt_or, tt_ite, valO_some, ofO_some, noE_ok, fin_rt, fin_nx, bl_tt, bl_ff, bl_tf, bl_ft, asgT, asgTs, wipeR, lst_C, dic_C, lstC_l, lstC_d, dicC_l, dicC_d, d_addI, d_addS, d_addT, d_addL, d_sub, d_mul, d_fdiv, d_mod, d_augI, d_augSub, d_augL, c_eqI, c_eqS, c_neI, c_neS, c_lt, c_le, c_gt, c_ge, c_isn, c_isnn, c_isb, c_isnb, c_in, c_nin, in_tup, in_dic, eqF_S, eqF_I, tr_non, tr_bl, tr_int, tr_str, tr_tup, tr_rol, truC_l, truC_d, tr_cell, isi_non, isi_bl, isi_int, isi_str, isi_tup, isi_rol, isiC_l, isiC_d, isi_cell, isiT, isNonD, isBlD, ix_tup, ix_rol, ixC_l, ixC_d, ix_cell, sl_tup, sl_rol, sl_cell, setC_l, setC_d, set_cell, key_i, key_s, part_i, star_tup, star_rol, star_cell, it_tup, it_rol, it_cell, b_lenT, b_lenR, b_lenS, lenC_l, lenC_d, b_lenC, b_intI, b_intB, b_tupT, b_tupR, b_tupC, b_lstT, b_lstR, b_lstC, b_dict, b_isi, mo_join, mo_get, mo_append, mo_extend, mo_pop, mo_index, isStr_s, m_append, m_extend, m_pop, m_index, m_joinC, m_get1, m_get2, catL_ok, augL_ok, dicL_ok, appL_ok, extL_ok, capT_ok, capL_ok, le_big, lt_big, ok_var, ok_con, ok_glo, ok_gix, ok_tup, ok_lst, ok_dis, ok_bin, ok_neg, ok_cmp, ok_cmp2, ok_not, ok_and, ok_or, ok_ite, ok_call, ok_blt, ok_mth, ok_ix, ok_sl, ok_comp, pt_var, pt_con, pt_glo, pt_tup, pt_lst, pt_bin, pt_call, pt_blt, pt_mth, pt_ix, pt_sl, pt_comp, List.getElem?_cons_zero, List.getElem?_cons_succ, List.set_cons_zero, List.set_cons_succ, List.map_cons, List.map_nil, List.replicate_succ, List.replicate_zero, List.cons_append, List.nil_append, List.length_cons, List.length_nil, List.append_nil, Option.bind_some, Option.bind_none, Option.map_some, Option.map_none, Option.isSome_some, Option.isSome_none, Nat.reduceAdd, Nat.reduceSub, Nat.reduceLeDiff, Nat.reduceEqDiff, Nat.reduceLT, if_true, if_false, Bool.false_eq_true, Bool.and_true, Bool.true_and, Bool.and_false, Bool.false_and, Bool.not_true, Bool.not_false, Bool.or_true, Bool.true_or, Bool.or_false, Bool.false_or, Bool.and_self, ite_true, ite_false, decide_true, decide_false, reduceIte, Int.reduceLT, Int.reduceLE, Int.reduceNeg, Int.reducePow, Int.reduceEq, and_self, and_true, true_and, mk1, mk2]
        rw [x_cons, x_iff]
        simp only [tt_cmp, v_var, v_con, x_bind, c_ge, valO_some, x_bindS, x_cons, x_nil, x_seq, List.getElem?_cons_zero, List.getElem?_cons_succ, hz, decide_false, Bool.false_eq_true, if_false, hd, h1])
  refine ⟨xs, ?_⟩
  have h0 : exS (callP (runF G k)) G.con (.asg (.nm 3) (.lst [])) [some (.rol (ns.map .int)), some (.int 0), some (.int 63), none, none, none, none, none] [] = .ok (.nx [some (.rol (ns.map .int)), some (.int 0), some (.int 63), some (.cell 0), none, none, none, none]) [digC []] := by
    have hb : ([] : List D).length ≤ big := le_big (by simp)
    simp only [v_dcomp, v_gget, v_gin, v_gix2, i_enuE, i_zipE, lstC_f, ixC_f, m_extendT, ok_dcomp, ok_gget, ok_gin, ok_gix2, pt_dcomp, pt_gget, pt_gin, pt_gix2, x_bind, x_bindS, x_seq, x_seqR, x_seqB, x_seqC, x_nil, x_cons, x_asg, x_setx, x_aug, x_exp, x_ret, x_retn, x_iff, x_forr, x_brk, x_cont, x_pass, v_var, v_con, v_glo, v_gix, v_tup, v_lst, v_dis, v_bin, v_neg, v_cmp, v_cmp2, v_not, v_and, v_or, v_ite, v_call, v_blt, v_mth, v_ix, v_sl, v_comp, es_nil, es_cons, es_star, p_nop, p_e, i_rng, i_e, cs_nil, cs_cons, tt_e, tt_cmp, tt_cmp2, tt_not, tt_and, tt_or, tt_ite, valO_some, ofO_some, noE_ok, fin_rt, fin_nx, bl_tt, bl_ff, bl_tf, bl_ft, asgT, asgTs, wipeR, lst_C, dic_C, lstC_l, lstC_d, dicC_l, dicC_d, d_addI, d_addS, d_addT, d_addL, d_sub, d_mul, d_fdiv, d_mod, d_augI, d_augSub, d_augL, c_eqI, c_eqS, c_neI, c_neS, c_lt, c_le, c_gt, c_ge, c_isn, c_isnn, c_isb, c_isnb, c_in, c_nin, in_tup, in_dic, eqF_S, eqF_I, tr_non, tr_bl, tr_int, tr_str, tr_tup, tr_rol, truC_l, truC_d, tr_cell, isi_non, isi_bl, isi_int, isi_str, isi_tup, isi_rol, isiC_l, isiC_d, isi_cell, isiT, isNonD, isBlD, ix_tup, ix_rol, ixC_l, ixC_d, ix_cell, sl_tup, sl_rol, sl_cell, setC_l, setC_d, set_cell, key_i, key_s, part_i, star_tup, star_rol, star_cell, it_tup, it_rol, it_cell, b_lenT, b_lenR, b_lenS, lenC_l, lenC_d, b_lenC, b_intI, b_intB, b_tupT, b_tupR, b_tupC, b_lstT, b_lstR, b_lstC, b_dict, b_isi, mo_join, mo_get, mo_append, mo_extend, mo_pop, mo_index, isStr_s, m_append, m_extend, m_pop, m_index, m_joinC, m_get1, m_get2, catL_ok, augL_ok, dicL_ok, appL_ok, extL_ok, capT_ok, capL_ok, le_big, lt_big, ok_var, ok_con, ok_glo, ok_gix, ok_tup, ok_lst, ok_dis, ok_bin, ok_neg, ok_cmp, ok_cmp2, ok_not, ok_and, ok_or, ok_ite, ok_call, ok_blt, ok_mth, ok_ix, ok_sl, ok_comp, pt_var, pt_con, pt_glo, pt_tup, pt_lst, pt_bin, pt_call, pt_blt, pt_mth, pt_ix, pt_sl, pt_comp, List.getElem?_cons_zero, List.getElem?_cons_succ, List.set_cons_zero, List.set_cons_succ, List.map_cons, List.map_nil, List.replicate_succ, List.replicate_zero, List.cons_append, List.nil_append, List.length_cons, List.length_nil, List.append_nil, Option.bind_some, Option.bind_none, Option.map_some, Option.map_none, Option.isSome_some, Option.isSome_none, Nat.reduceAdd, Nat.reduceSub, Nat.reduceLeDiff, Nat.reduceEqDiff, Nat.reduceLT, if_true, if_false, Bool.false_eq_true, Bool.and_true, Bool.true_and, Bool.and_false, Bool.false_and, Bool.not_true, Bool.not_false, Bool.or_true, Bool.true_or, Bool.or_false, Bool.false_or, Bool.and_self, ite_true, ite_false, decide_true, decide_false, reduceIte, Int.reduceLT, Int.reduceLE, Int.reduceNeg, Int.reducePow, Int.reduceEq, and_self, and_true, true_and, hb]
    rfl
  have h2 : exS (callP (runF G k)) G.con (.forr (.nm 4) (.rng [(.var 1), (.var 2)]) dgF) [some (.rol (ns.map .int)), some (.int 0), some (.int 63), some (.cell 0), none, none, none, none] [digC []] = .ok (.nx [some (.rol (ns.map .int)), some (.int 0), some (.int 63), some (.cell 0), c4, c5, c6, c7]) [digC xs] := by
    rw [x_forr]
    simp only [i_rng, es_cons, es_nil, ok_var, v_var, x_bind, x_bindS, List.getElem?_cons_zero, List.getElem?_cons_succ, r63]
    exact h1
  show fin (exSs _ _ [_, _, _] [some (.rol (ns.map .int)), some (.int 0), some (.int 63), none, none, none, none, none] []) = _
  rw [x_cons, h0, x_seq, x_cons, h2, x_seq]
  simp only [x_cons, x_ret, v_var, x_bindS, x_seqR, fin_rt, List.getElem?_cons_zero, List.getElem?_cons_succ]
theorem s_digits {G : Pg} (hG : G.fn 0 = some b__law_digits) {k : Nat} (hk : 1 ≤ k) (ns : List Int) :
    ∃ xs : List Int, callP (runF G k) 0 [.rol (ns.map .int), .int 0, .int 63] [] = .ok (.cell 0) [digC xs] := by
  obtain ⟨k, rfl, _⟩ := k_succ hk
  obtain ⟨xs, h⟩ := run_digits hG (k := k) ns
  refine ⟨xs, ?_⟩
  have hp : D.pures [.rol (ns.map .int), .int 0, .int 63] = true := by simp [D.pures, D.pure, pures_ints]
  have en : newC 0 [.cell 0] [digC xs] = [0] := by
    unfold newC
    rw [wF]
    simp [D.refsL, D.refs, reach, refs_dig, reach_nil]
  have e1 : leave [] [.cell 0] [] [digC xs] = some ([.cell 0], [digC xs]) := by
    simp only [leave, List.length_nil, en, List.range_zero, subM, D.rens, D.ren, Option.bind_some, Option.map_some, List.getElem?_cons_zero, ren_dig, setAll]
    rfl
  simp only [callP, refsL_pure _ hp, reach_nil, rens_pure _ hp, subM, h, e1]
end J

namespace J
open PySem L2
/-! ## told like due -/
mutual
def D.dep : D → Nat
  | .tup ds => D.deps ds + 1
  | _ => 0
def D.deps : List D → Nat
  | [] => 0
  | d :: r => max d.dep (D.deps r)
end
mutual
/-- what may be compared -/
def D.lk : D → Bool
  | .str s => decide (s.length ≤ big)
  | .tup ds => decide (ds.length ≤ big) && D.lks ds
  | .rol _ => false
  | .cell _ => false
  | _ => true
def D.lks : List D → Bool
  | [] => true
  | d :: r => d.lk && D.lks r
end
theorem lks_at : ∀ {ds : List D} {i : Nat} {d : D}, D.lks ds = true → ds[i]? = some d → d.lk = true ∧ d.dep ≤ D.deps ds
  | [], i, d, _, h => by simp at h
  | e :: r, 0, d, h, hi => by
    simp only [D.lks, Bool.and_eq_true] at h
    cases hi
    exact ⟨h.1, by simp only [D.deps]; omega⟩
  | e :: r, i + 1, d, h, hi => by
    simp only [D.lks, Bool.and_eq_true] at h
    obtain ⟨h1, h2⟩ := lks_at h.2 (by simpa using hi)
    exact ⟨h1, by simp only [D.deps]; omega⟩
mutual
theorem lk_pure : ∀ (d : D), d.lk = true → d.pure = true
  | .non, _ => rfl
  | .bl _, _ => rfl
  | .int _, _ => rfl
  | .str _, _ => rfl
  | .tup ds, h => by simp only [D.lk, Bool.and_eq_true] at h; simp only [D.pure]; exact lks_pure ds h.2
  | .rol _, h => by simp [D.lk] at h
  | .cell _, h => by simp [D.lk] at h
theorem lks_pure : ∀ (ds : List D), D.lks ds = true → D.pures ds = true
  | [], _ => rfl
  | d :: r, h => by simp only [D.lks, Bool.and_eq_true] at h; simp only [D.pures, lk_pure d h.1, lks_pure r h.2, Bool.and_self]
end
theorem join_one {s : Str} : Txt.join (⟨#[]⟩ : Str) [s] = s := rfl
theorem joinL_one {M : Mem} {s : Str} (h : s.length ≤ big) : joinL M ⟨#[]⟩ [s] = some (.str s, M) := by
  unfold joinL
  rw [join_one, if_pos]
  simpa [Str.length] using h
theorem run_like {G : Pg} (hG : G.fn 3 = some b__law_like) : ∀ (k : Nat) (d : D), d.lk = true → d.dep < k → ∃ M', runF G k 3 [d, d] [] = .ok (.bl true) M'
  | 0, d, _, h => by omega
  | k + 1, d, hl, hd => by
    rw [run_of hG rfl]
    cases d with
    | non => exact ⟨[], by simp only [b__law_like, v_dcomp, v_gget, v_gin, v_gix2, i_enuE, i_zipE, lstC_f, ixC_f, m_extendT, ok_dcomp, ok_gget, ok_gin, ok_gix2, pt_dcomp, pt_gget, pt_gin, pt_gix2, x_bind, x_bindS, x_seq, x_seqR, x_seqB, x_seqC, x_nil, x_cons, x_asg, x_setx, x_aug, x_exp, x_ret, x_retn, x_iff, x_forr, x_brk, x_cont, x_pass, v_var, v_con, v_glo, v_gix, v_tup, v_lst, v_dis, v_bin, v_neg, v_cmp, v_cmp2, v_not, v_and, v_or, v_ite, v_call, v_blt, v_mth, v_ix, v_sl, v_comp, es_nil, es_cons, es_star, p_nop, p_e, i_rng, i_e, cs_nil, cs_cons, tt_e, tt_cmp, tt_cmp2, tt_not, tt_and, tt_or, tt_ite, valO_some, ofO_some, noE_ok, fin_rt, fin_nx, bl_tt, bl_ff, bl_tf, bl_ft, asgT, asgTs, wipeR, lst_C, dic_C, lstC_l, lstC_d, dicC_l, dicC_d, d_addI, d_addS, d_addT, d_addL, d_sub, d_mul, d_fdiv, d_mod, d_augI, d_augSub, d_augL, c_eqI, c_eqS, c_neI, c_neS, c_lt, c_le, c_gt, c_ge, c_isn, c_isnn, c_isb, c_isnb, c_in, c_nin, in_tup, in_dic, eqF_S, eqF_I, tr_non, tr_bl, tr_int, tr_str, tr_tup, tr_rol, truC_l, truC_d, tr_cell, isi_non, isi_bl, isi_int, isi_str, isi_tup, isi_rol, isiC_l, isiC_d, isi_cell, isiT, isNonD, isBlD, ix_tup, ix_rol, ixC_l, ixC_d, ix_cell, sl_tup, sl_rol, sl_cell, setC_l, setC_d, set_cell, key_i, key_s, part_i, star_tup, star_rol, star_cell, it_tup, it_rol, it_cell, b_lenT, b_lenR, b_lenS, lenC_l, lenC_d, b_lenC, b_intI, b_intB, b_tupT, b_tupR, b_tupC, b_lstT, b_lstR, b_lstC, b_dict, b_isi, mo_join, mo_get, mo_append, mo_extend, mo_pop, mo_index, isStr_s, m_append, m_extend, m_pop, m_index, m_joinC, m_get1, m_get2, catL_ok, augL_ok, dicL_ok, appL_ok, extL_ok, capT_ok, capL_ok, le_big, lt_big, ok_var, ok_con, ok_glo, ok_gix, ok_tup, ok_lst, ok_dis, ok_bin, ok_neg, ok_cmp, ok_cmp2, ok_not, ok_and, ok_or, ok_ite, ok_call, ok_blt, ok_mth, ok_ix, ok_sl, ok_comp, pt_var, pt_con, pt_glo, pt_tup, pt_lst, pt_bin, pt_call, pt_blt, pt_mth, pt_ix, pt_sl, pt_comp, List.getElem?_cons_zero, List.getElem?_cons_succ, List.set_cons_zero, List.set_cons_succ, List.map_cons, List.map_nil, List.replicate_succ, List.replicate_zero, List.cons_append, List.nil_append, List.length_cons, List.length_nil, List.append_nil, Option.bind_some, Option.bind_none, Option.map_some, Option.map_none, Option.isSome_some, Option.isSome_none, Nat.reduceAdd, Nat.reduceSub, Nat.reduceLeDiff, Nat.reduceEqDiff, Nat.reduceLT, if_true, if_false, Bool.false_eq_true, Bool.and_true, Bool.true_and, Bool.and_false, Bool.false_and, Bool.not_true, Bool.not_false, Bool.or_true, Bool.true_or, Bool.or_false, Bool.false_or, Bool.and_self, ite_true, ite_false, decide_true, decide_false, reduceIte, Int.reduceLT, Int.reduceLE, Int.reduceNeg, Int.reducePow, Int.reduceEq, and_self, and_true, true_and]⟩
    | bl b => cases b <;> exact ⟨[], by simp only [b__law_like, v_dcomp, v_gget, v_gin, v_gix2, i_enuE, i_zipE, lstC_f, ixC_f, m_extendT, ok_dcomp, ok_gget, ok_gin, ok_gix2, pt_dcomp, pt_gget, pt_gin, pt_gix2, x_bind, x_bindS, x_seq, x_seqR, x_seqB, x_seqC, x_nil, x_cons, x_asg, x_setx, x_aug, x_exp, x_ret, x_retn, x_iff, x_forr, x_brk, x_cont, x_pass, v_var, v_con, v_glo, v_gix, v_tup, v_lst, v_dis, v_bin, v_neg, v_cmp, v_cmp2, v_not, v_and, v_or, v_ite, v_call, v_blt, v_mth, v_ix, v_sl, v_comp, es_nil, es_cons, es_star, p_nop, p_e, i_rng, i_e, cs_nil, cs_cons, tt_e, tt_cmp, tt_cmp2, tt_not, tt_and, tt_or, tt_ite, valO_some, ofO_some, noE_ok, fin_rt, fin_nx, bl_tt, bl_ff, bl_tf, bl_ft, asgT, asgTs, wipeR, lst_C, dic_C, lstC_l, lstC_d, dicC_l, dicC_d, d_addI, d_addS, d_addT, d_addL, d_sub, d_mul, d_fdiv, d_mod, d_augI, d_augSub, d_augL, c_eqI, c_eqS, c_neI, c_neS, c_lt, c_le, c_gt, c_ge, c_isn, c_isnn, c_isb, c_isnb, c_in, c_nin, in_tup, in_dic, eqF_S, eqF_I, tr_non, tr_bl, tr_int, tr_str, tr_tup, tr_rol, truC_l, truC_d, tr_cell, isi_non, isi_bl, isi_int, isi_str, isi_tup, isi_rol, isiC_l, isiC_d, isi_cell, isiT, isNonD, isBlD, ix_tup, ix_rol, ixC_l, ixC_d, ix_cell, sl_tup, sl_rol, sl_cell, setC_l, setC_d, set_cell, key_i, key_s, part_i, star_tup, star_rol, star_cell, it_tup, it_rol, it_cell, b_lenT, b_lenR, b_lenS, lenC_l, lenC_d, b_lenC, b_intI, b_intB, b_tupT, b_tupR, b_tupC, b_lstT, b_lstR, b_lstC, b_dict, b_isi, mo_join, mo_get, mo_append, mo_extend, mo_pop, mo_index, isStr_s, m_append, m_extend, m_pop, m_index, m_joinC, m_get1, m_get2, catL_ok, augL_ok, dicL_ok, appL_ok, extL_ok, capT_ok, capL_ok, le_big, lt_big, ok_var, ok_con, ok_glo, ok_gix, ok_tup, ok_lst, ok_dis, ok_bin, ok_neg, ok_cmp, ok_cmp2, ok_not, ok_and, ok_or, ok_ite, ok_call, ok_blt, ok_mth, ok_ix, ok_sl, ok_comp, pt_var, pt_con, pt_glo, pt_tup, pt_lst, pt_bin, pt_call, pt_blt, pt_mth, pt_ix, pt_sl, pt_comp, List.getElem?_cons_zero, List.getElem?_cons_succ, List.set_cons_zero, List.set_cons_succ, List.map_cons, List.map_nil, List.replicate_succ, List.replicate_zero, List.cons_append, List.nil_append, List.length_cons, List.length_nil, List.append_nil, Option.bind_some, Option.bind_none, Option.map_some, Option.map_none, Option.isSome_some, Option.isSome_none, Nat.reduceAdd, Nat.reduceSub, Nat.reduceLeDiff, Nat.reduceEqDiff, Nat.reduceLT, if_true, if_false, Bool.false_eq_true, Bool.and_true, Bool.true_and, Bool.and_false, Bool.false_and, Bool.not_true, Bool.not_false, Bool.or_true, Bool.true_or, Bool.or_false, Bool.false_or, Bool.and_self, ite_true, ite_false, decide_true, decide_false, reduceIte, Int.reduceLT, Int.reduceLE, Int.reduceNeg, Int.reducePow, Int.reduceEq, and_self, and_true, true_and]⟩
    | int i => exact ⟨[], by simp only [b__law_like, v_dcomp, v_gget, v_gin, v_gix2, i_enuE, i_zipE, lstC_f, ixC_f, m_extendT, ok_dcomp, ok_gget, ok_gin, ok_gix2, pt_dcomp, pt_gget, pt_gin, pt_gix2, x_bind, x_bindS, x_seq, x_seqR, x_seqB, x_seqC, x_nil, x_cons, x_asg, x_setx, x_aug, x_exp, x_ret, x_retn, x_iff, x_forr, x_brk, x_cont, x_pass, v_var, v_con, v_glo, v_gix, v_tup, v_lst, v_dis, v_bin, v_neg, v_cmp, v_cmp2, v_not, v_and, v_or, v_ite, v_call, v_blt, v_mth, v_ix, v_sl, v_comp, es_nil, es_cons, es_star, p_nop, p_e, i_rng, i_e, cs_nil, cs_cons, tt_e, tt_cmp, tt_cmp2, tt_not, tt_and, tt_or, tt_ite, valO_some, ofO_some, noE_ok, fin_rt, fin_nx, bl_tt, bl_ff, bl_tf, bl_ft, asgT, asgTs, wipeR, lst_C, dic_C, lstC_l, lstC_d, dicC_l, dicC_d, d_addI, d_addS, d_addT, d_addL, d_sub, d_mul, d_fdiv, d_mod, d_augI, d_augSub, d_augL, c_eqI, c_eqS, c_neI, c_neS, c_lt, c_le, c_gt, c_ge, c_isn, c_isnn, c_isb, c_isnb, c_in, c_nin, in_tup, in_dic, eqF_S, eqF_I, tr_non, tr_bl, tr_int, tr_str, tr_tup, tr_rol, truC_l, truC_d, tr_cell, isi_non, isi_bl, isi_int, isi_str, isi_tup, isi_rol, isiC_l, isiC_d, isi_cell, isiT, isNonD, isBlD, ix_tup, ix_rol, ixC_l, ixC_d, ix_cell, sl_tup, sl_rol, sl_cell, setC_l, setC_d, set_cell, key_i, key_s, part_i, star_tup, star_rol, star_cell, it_tup, it_rol, it_cell, b_lenT, b_lenR, b_lenS, lenC_l, lenC_d, b_lenC, b_intI, b_intB, b_tupT, b_tupR, b_tupC, b_lstT, b_lstR, b_lstC, b_dict, b_isi, mo_join, mo_get, mo_append, mo_extend, mo_pop, mo_index, isStr_s, m_append, m_extend, m_pop, m_index, m_joinC, m_get1, m_get2, catL_ok, augL_ok, dicL_ok, appL_ok, extL_ok, capT_ok, capL_ok, le_big, lt_big, ok_var, ok_con, ok_glo, ok_gix, ok_tup, ok_lst, ok_dis, ok_bin, ok_neg, ok_cmp, ok_cmp2, ok_not, ok_and, ok_or, ok_ite, ok_call, ok_blt, ok_mth, ok_ix, ok_sl, ok_comp, pt_var, pt_con, pt_glo, pt_tup, pt_lst, pt_bin, pt_call, pt_blt, pt_mth, pt_ix, pt_sl, pt_comp, List.getElem?_cons_zero, List.getElem?_cons_succ, List.set_cons_zero, List.set_cons_succ, List.map_cons, List.map_nil, List.replicate_succ, List.replicate_zero, List.cons_append, List.nil_append, List.length_cons, List.length_nil, List.append_nil, Option.bind_some, Option.bind_none, Option.map_some, Option.map_none, Option.isSome_some, Option.isSome_none, Nat.reduceAdd, Nat.reduceSub, Nat.reduceLeDiff, Nat.reduceEqDiff, Nat.reduceLT, if_true, if_false, Bool.false_eq_true, Bool.and_true, Bool.true_and, Bool.and_false, Bool.false_and, Bool.not_true, Bool.not_false, Bool.or_true, Bool.true_or, Bool.or_false, Bool.false_or, Bool.and_self, ite_true, ite_false, decide_true, decide_false, reduceIte, Int.reduceLT, Int.reduceLE, Int.reduceNeg, Int.reducePow, Int.reduceEq, and_self, and_true, true_and, beq_self_eq_true]⟩
    | str s =>
      have hs : s.length ≤ big := by simpa [D.lk] using hl
      exact ⟨[.lst [.str s]], by simp only [b__law_like, v_dcomp, v_gget, v_gin, v_gix2, i_enuE, i_zipE, lstC_f, ixC_f, m_extendT, ok_dcomp, ok_gget, ok_gin, ok_gix2, pt_dcomp, pt_gget, pt_gin, pt_gix2, x_bind, x_bindS, x_seq, x_seqR, x_seqB, x_seqC, x_nil, x_cons, x_asg, x_setx, x_aug, x_exp, x_ret, x_retn, x_iff, x_forr, x_brk, x_cont, x_pass, v_var, v_con, v_glo, v_gix, v_tup, v_lst, v_dis, v_bin, v_neg, v_cmp, v_cmp2, v_not, v_and, v_or, v_ite, v_call, v_blt, v_mth, v_ix, v_sl, v_comp, es_nil, es_cons, es_star, p_nop, p_e, i_rng, i_e, cs_nil, cs_cons, tt_e, tt_cmp, tt_cmp2, tt_not, tt_and, tt_or, tt_ite, valO_some, ofO_some, noE_ok, fin_rt, fin_nx, bl_tt, bl_ff, bl_tf, bl_ft, asgT, asgTs, wipeR, lst_C, dic_C, lstC_l, lstC_d, dicC_l, dicC_d, d_addI, d_addS, d_addT, d_addL, d_sub, d_mul, d_fdiv, d_mod, d_augI, d_augSub, d_augL, c_eqI, c_eqS, c_neI, c_neS, c_lt, c_le, c_gt, c_ge, c_isn, c_isnn, c_isb, c_isnb, c_in, c_nin, in_tup, in_dic, eqF_S, eqF_I, tr_non, tr_bl, tr_int, tr_str, tr_tup, tr_rol, truC_l, truC_d, tr_cell, isi_non, isi_bl, isi_int, isi_str, isi_tup, isi_rol, isiC_l, isiC_d, isi_cell, isiT, isNonD, isBlD, ix_tup, ix_rol, ixC_l, ixC_d, ix_cell, sl_tup, sl_rol, sl_cell, setC_l, setC_d, set_cell, key_i, key_s, part_i, star_tup, star_rol, star_cell, it_tup, it_rol, it_cell, b_lenT, b_lenR, b_lenS, lenC_l, lenC_d, b_lenC, b_intI, b_intB, b_tupT, b_tupR, b_tupC, b_lstT, b_lstR, b_lstC, b_dict, b_isi, mo_join, mo_get, mo_append, mo_extend, mo_pop, mo_index, isStr_s, m_append, m_extend, m_pop, m_index, m_joinC, m_get1, m_get2, catL_ok, augL_ok, dicL_ok, appL_ok, extL_ok, capT_ok, capL_ok, le_big, lt_big, ok_var, ok_con, ok_glo, ok_gix, ok_tup, ok_lst, ok_dis, ok_bin, ok_neg, ok_cmp, ok_cmp2, ok_not, ok_and, ok_or, ok_ite, ok_call, ok_blt, ok_mth, ok_ix, ok_sl, ok_comp, pt_var, pt_con, pt_glo, pt_tup, pt_lst, pt_bin, pt_call, pt_blt, pt_mth, pt_ix, pt_sl, pt_comp, List.getElem?_cons_zero, List.getElem?_cons_succ, List.set_cons_zero, List.set_cons_succ, List.map_cons, List.map_nil, List.replicate_succ, List.replicate_zero, List.cons_append, List.nil_append, List.length_cons, List.length_nil, List.append_nil, Option.bind_some, Option.bind_none, Option.map_some, Option.map_none, Option.isSome_some, Option.isSome_none, Nat.reduceAdd, Nat.reduceSub, Nat.reduceLeDiff, Nat.reduceEqDiff, Nat.reduceLT, if_true, if_false, Bool.false_eq_true, Bool.and_true, Bool.true_and, Bool.and_false, Bool.false_and, Bool.not_true, Bool.not_false, Bool.or_true, Bool.true_or, Bool.or_false, Bool.false_or, Bool.and_self, ite_true, ite_false, decide_true, decide_false, reduceIte, Int.reduceLT, Int.reduceLE, Int.reduceNeg, Int.reducePow, Int.reduceEq, and_self, and_true, true_and, strsD, joinL_one hs]⟩
    | tup ds =>
      simp only [D.lk, Bool.and_eq_true, decide_eq_true_eq] at hl
      simp only [D.dep] at hd
      have hr : rngI ([] : Mem) [.int (ds.length : Int)] = .ok ([], rngD 0 ds.length) [] := by
        have h62 : in62 (ds.length : Int) = true := by
          have : ds.length ≤ 16777216 := hl.1
          simp only [in62, Bool.and_eq_true, decide_eq_true_eq]
          omega
        simp only [rngI, h62, if_true, Int.toNat_natCast]
      obtain ⟨ds', M', h1, rfl, rfl⟩ := compL_inv (asg := fun d => asgT (.nm 2) d (wipeR [some (.tup ds), some (.tup ds), none] [2])) (tst := evCs (callP (runF G k)) G.con [.nott (.call 3 [.ix (.var 0) (.var 2), .ix (.var 1) (.var 2)])]) (elt := evE (callP (runF G k)) G.con (.con (.int 1))) (srcs := [])
        (fun _ acc M => acc = [] ∧ M = []) (rngD 0 ds.length) 0 [] [] ⟨rfl, rfl⟩ (by rw [rngD_len]; simpa using hl.1) (fun _ _ _ _ => rfl) (by
          rintro j d acc M hj ⟨rfl, rfl⟩
          obtain ⟨rfl, hj'⟩ := rngD_at hj
          have e : ds[j]? = some ds[j] := List.getElem?_eq_getElem hj'
          obtain ⟨h3, h4⟩ := lks_at hl.2 e
          obtain ⟨M', hM⟩ := run_like hG k ds[j] h3 (by omega)
          have hc : callP (runF G k) 3 [ds[j], ds[j]] [] = .ok (.bl true) [] := callP_pure (by simp [D.pures, lk_pure _ h3]) hM rfl
          have ha : atI ds (0 + (j : Int)) = some ds[j] := by rw [show (0 : Int) + (j : Int) = j by omega]; exact atI_nat hj'
          refine ⟨_, false, [], rfl, ?_, .inl ⟨rfl, rfl, rfl⟩⟩
          simp only [v_dcomp, v_gget, v_gin, v_gix2, i_enuE, i_zipE, lstC_f, ixC_f, m_extendT, ok_dcomp, ok_gget, ok_gin, ok_gix2, pt_dcomp, pt_gget, pt_gin, pt_gix2, x_bind, x_bindS, x_seq, x_seqR, x_seqB, x_seqC, x_nil, x_cons, x_asg, x_setx, x_aug, x_exp, x_ret, x_retn, x_iff, x_forr, x_brk, x_cont, x_pass, v_var, v_con, v_glo, v_gix, v_tup, v_lst, v_dis, v_bin, v_neg, v_cmp, v_cmp2, v_not, v_and, v_or, v_ite, v_call, v_blt, v_mth, v_ix, v_sl, v_comp, es_nil, es_cons, es_star, p_nop, p_e, i_rng, i_e, cs_nil, cs_cons, tt_e, tt_cmp, tt_cmp2, tt_not, tt_and, tt_or, tt_ite, valO_some, ofO_some, noE_ok, fin_rt, fin_nx, bl_tt, bl_ff, bl_tf, bl_ft, asgT, asgTs, wipeR, lst_C, dic_C, lstC_l, lstC_d, dicC_l, dicC_d, d_addI, d_addS, d_addT, d_addL, d_sub, d_mul, d_fdiv, d_mod, d_augI, d_augSub, d_augL, c_eqI, c_eqS, c_neI, c_neS, c_lt, c_le, c_gt, c_ge, c_isn, c_isnn, c_isb, c_isnb, c_in, c_nin, in_tup, in_dic, eqF_S, eqF_I, tr_non, tr_bl, tr_int, tr_str, tr_tup, tr_rol, truC_l, truC_d, tr_cell, isi_non, isi_bl, isi_int, isi_str, isi_tup, isi_rol, isiC_l, isiC_d, isi_cell, isiT, isNonD, isBlD, ix_tup, ix_rol, ixC_l, ixC_d, ix_cell, sl_tup, sl_rol, sl_cell, setC_l, setC_d, set_cell, key_i, key_s, part_i, star_tup, star_rol, star_cell, it_tup, it_rol, it_cell, b_lenT, b_lenR, b_lenS, lenC_l, lenC_d, b_lenC, b_intI, b_intB, b_tupT, b_tupR, b_tupC, b_lstT, b_lstR, b_lstC, b_dict, b_isi, mo_join, mo_get, mo_append, mo_extend, mo_pop, mo_index, isStr_s, m_append, m_extend, m_pop, m_index, m_joinC, m_get1, m_get2, catL_ok, augL_ok, dicL_ok, appL_ok, extL_ok, capT_ok, capL_ok, le_big, lt_big, ok_var, ok_con, ok_glo, ok_gix, ok_tup, ok_lst, ok_dis, ok_bin, ok_neg, ok_cmp, ok_cmp2, ok_not, ok_and, ok_or, ok_ite, ok_call, ok_blt, ok_mth, ok_ix, ok_sl, ok_comp, pt_var, pt_con, pt_glo, pt_tup, pt_lst, pt_bin, pt_call, pt_blt, pt_mth, pt_ix, pt_sl, pt_comp, List.getElem?_cons_zero, List.getElem?_cons_succ, List.set_cons_zero, List.set_cons_succ, List.map_cons, List.map_nil, List.replicate_succ, List.replicate_zero, List.cons_append, List.nil_append, List.length_cons, List.length_nil, List.append_nil, Option.bind_some, Option.bind_none, Option.map_some, Option.map_none, Option.isSome_some, Option.isSome_none, Nat.reduceAdd, Nat.reduceSub, Nat.reduceLeDiff, Nat.reduceEqDiff, Nat.reduceLT, if_true, if_false, Bool.false_eq_true, Bool.and_true, Bool.true_and, Bool.and_false, Bool.false_and, Bool.not_true, Bool.not_false, Bool.or_true, Bool.true_or, Bool.or_false, Bool.false_or, Bool.and_self, ite_true, ite_false, decide_true, decide_false, reduceIte, Int.reduceLT, Int.reduceLE, Int.reduceNeg, Int.reducePow, Int.reduceEq, and_self, and_true, true_and, ha, hc])
      simp only [wipeR, asgT, List.set_cons_succ, List.set_cons_zero] at h1
      have he : cmpD .eq (.cell 0) (.cell 1) [.lst [], .lst []] = some true := rfl
      exact ⟨[.lst [], .lst []], by simp only [b__law_like, v_dcomp, v_gget, v_gin, v_gix2, i_enuE, i_zipE, lstC_f, ixC_f, m_extendT, ok_dcomp, ok_gget, ok_gin, ok_gix2, pt_dcomp, pt_gget, pt_gin, pt_gix2, x_bind, x_bindS, x_seq, x_seqR, x_seqB, x_seqC, x_nil, x_cons, x_asg, x_setx, x_aug, x_exp, x_ret, x_retn, x_iff, x_forr, x_brk, x_cont, x_pass, v_var, v_con, v_glo, v_gix, v_tup, v_lst, v_dis, v_bin, v_neg, v_cmp, v_cmp2, v_not, v_and, v_or, v_ite, v_call, v_blt, v_mth, v_ix, v_sl, v_comp, es_nil, es_cons, es_star, p_nop, p_e, i_rng, i_e, cs_nil, cs_cons, tt_e, tt_cmp, tt_cmp2, tt_not, tt_and, tt_or, tt_ite, valO_some, ofO_some, noE_ok, fin_rt, fin_nx, bl_tt, bl_ff, bl_tf, bl_ft, asgT, asgTs, wipeR, lst_C, dic_C, lstC_l, lstC_d, dicC_l, dicC_d, d_addI, d_addS, d_addT, d_addL, d_sub, d_mul, d_fdiv, d_mod, d_augI, d_augSub, d_augL, c_eqI, c_eqS, c_neI, c_neS, c_lt, c_le, c_gt, c_ge, c_isn, c_isnn, c_isb, c_isnb, c_in, c_nin, in_tup, in_dic, eqF_S, eqF_I, tr_non, tr_bl, tr_int, tr_str, tr_tup, tr_rol, truC_l, truC_d, tr_cell, isi_non, isi_bl, isi_int, isi_str, isi_tup, isi_rol, isiC_l, isiC_d, isi_cell, isiT, isNonD, isBlD, ix_tup, ix_rol, ixC_l, ixC_d, ix_cell, sl_tup, sl_rol, sl_cell, setC_l, setC_d, set_cell, key_i, key_s, part_i, star_tup, star_rol, star_cell, it_tup, it_rol, it_cell, b_lenT, b_lenR, b_lenS, lenC_l, lenC_d, b_lenC, b_intI, b_intB, b_tupT, b_tupR, b_tupC, b_lstT, b_lstR, b_lstC, b_dict, b_isi, mo_join, mo_get, mo_append, mo_extend, mo_pop, mo_index, isStr_s, m_append, m_extend, m_pop, m_index, m_joinC, m_get1, m_get2, catL_ok, augL_ok, dicL_ok, appL_ok, extL_ok, capT_ok, capL_ok, le_big, lt_big, ok_var, ok_con, ok_glo, ok_gix, ok_tup, ok_lst, ok_dis, ok_bin, ok_neg, ok_cmp, ok_cmp2, ok_not, ok_and, ok_or, ok_ite, ok_call, ok_blt, ok_mth, ok_ix, ok_sl, ok_comp, pt_var, pt_con, pt_glo, pt_tup, pt_lst, pt_bin, pt_call, pt_blt, pt_mth, pt_ix, pt_sl, pt_comp, List.getElem?_cons_zero, List.getElem?_cons_succ, List.set_cons_zero, List.set_cons_succ, List.map_cons, List.map_nil, List.replicate_succ, List.replicate_zero, List.cons_append, List.nil_append, List.length_cons, List.length_nil, List.append_nil, Option.bind_some, Option.bind_none, Option.map_some, Option.map_none, Option.isSome_some, Option.isSome_none, Nat.reduceAdd, Nat.reduceSub, Nat.reduceLeDiff, Nat.reduceEqDiff, Nat.reduceLT, if_true, if_false, Bool.false_eq_true, Bool.and_true, Bool.true_and, Bool.and_false, Bool.false_and, Bool.not_true, Bool.not_false, Bool.or_true, Bool.true_or, Bool.or_false, Bool.false_or, Bool.and_self, ite_true, ite_false, decide_true, decide_false, reduceIte, Int.reduceLT, Int.reduceLE, Int.reduceNeg, Int.reducePow, Int.reduceEq, and_self, and_true, true_and, beq_self_eq_true, hr, h1, he]⟩
    | rol ds => simp [D.lk] at hl
    | cell n => simp [D.lk] at hl
theorem s_like {G : Pg} (hG : G.fn 3 = some b__law_like) {k : Nat} {d : D} {M : Mem} (hl : d.lk = true) (hd : d.dep < k) : callP (runF G k) 3 [d, d] M = .ok (.bl true) M := by
  obtain ⟨M', h⟩ := run_like hG k d hl hd
  exact callP_pure (by simp [D.pures, lk_pure _ hl]) h rfl
/-! ## picks of one kind -/
def isI : D → Bool
  | .int _ => true
  | _ => false
def isS : D → Bool
  | .str s => decide (s.length ≤ big)
  | _ => false
def inI : D → Int
  | .int i => i
  | _ => 0
def inS : D → Str
  | .str s => s
  | _ => ⟨#[]⟩
def pkI (xs : List Int) (at_ : Nat) (ds : List D) : Int := inI (gt ds (dr xs at_ ds.length))
def pkS (xs : List Int) (at_ : Nat) (ds : List D) : Str := inS (gt ds (dr xs at_ ds.length))
theorem gt_pk {xs : List Int} {at_ : Nat} {ds : List D} (hl : 0 < ds.length) : gt ds (dr xs at_ ds.length) ∈ ds := gt_mem (dr_lo (by omega)) (dr_hi (by omega))
theorem inI_of {d : D} (h : isI d = true) : d = .int (inI d) := by cases d <;> first | rfl | cases h
theorem inS_of {d : D} (h : isS d = true) : d = .str (inS d) := by cases d <;> first | rfl | cases h
theorem pkS_big {xs : List Int} {at_ : Nat} {ds : List D} (hl : 0 < ds.length) (hs : ds.all isS = true) : (pkS xs at_ ds).length ≤ big := by
  have h := List.all_eq_true.mp hs _ (gt_pk (xs := xs) (at_ := at_) hl)
  unfold pkS
  generalize gt ds (dr xs at_ ds.length) = d at h
  cases d <;> first | (simp [isS] at h; done) | skip
  simpa [isS, inS] using h
theorem pures_I {ds : List D} (h : ds.all isI = true) : D.pures ds = true := by
  induction ds with
  | nil => rfl
  | cons d r ih =>
    simp only [List.all_cons, Bool.and_eq_true] at h
    cases d <;> first | (simp [isI] at h; done) | skip
    simp [D.pures, D.pure, ih h.2]
theorem pures_S {ds : List D} (h : ds.all isS = true) : D.pures ds = true := by
  induction ds with
  | nil => rfl
  | cons d r ih =>
    simp only [List.all_cons, Bool.and_eq_true] at h
    cases d <;> first | (simp [isS] at h; done) | skip
    simp [D.pures, D.pure, ih h.2]
section
variable {G : Pg} (hG : G.fn 1 = some b__law_draw) (hG2 : G.fn 2 = some b__law_pick) {k : Nat} {b d t at_ : Nat} {xs : List Int} {ds : List D} {M : Mem}
include hG hG2
theorem s_pickI (hk : 2 ≤ k) (hl : 0 < ds.length) (hs : ds.all isI = true) (ha : at_ < 1000000000000) (hb : M[b]? = some (boxC d at_)) (hd : M[d]? = some (digC xs)) (ht : M[t]? = some (.lst ds)) (hbt : b ≠ t) (hdt : d ≠ t) :
    callP (runF G k) 2 [.cell b, .cell t] M = .ok (.int (pkI xs at_ ds)) (M.set b (boxC d (at_ + 1))) := by
  rw [s_pick hG hG2 hk hl (pures_I hs) ha hb hd ht hbt hdt]
  rw [inI_of (List.all_eq_true.mp hs _ (gt_pk (xs := xs) (at_ := at_) hl))]
  rfl
theorem s_pickS (hk : 2 ≤ k) (hl : 0 < ds.length) (hs : ds.all isS = true) (ha : at_ < 1000000000000) (hb : M[b]? = some (boxC d at_)) (hd : M[d]? = some (digC xs)) (ht : M[t]? = some (.lst ds)) (hbt : b ≠ t) (hdt : d ≠ t) :
    callP (runF G k) 2 [.cell b, .cell t] M = .ok (.str (pkS xs at_ ds)) (M.set b (boxC d (at_ + 1))) := by
  rw [s_pick hG hG2 hk hl (pures_S hs) ha hb hd ht hbt hdt]
  rw [inS_of (List.all_eq_true.mp hs _ (gt_pk (xs := xs) (at_ := at_) hl))]
  rfl
end
/-! ## draws in a known memory -/
section
variable {G : Pg} {k : Nat} {t at_ : Nat} {xs : List Int} {ds : List D} {g : Mem} {m : Int}
theorem x_draw (hG : G.fn 1 = some b__law_draw) (hk : 1 ≤ k) (hm : 0 < m) (ha : at_ < 1000000000000) : callP (runF G k) 1 [.cell 0, .int m] (boxC 1 at_ :: digC xs :: g) = .ok (.int (dr xs at_ m)) (boxC 1 (at_ + 1) :: digC xs :: g) :=
  s_draw hG hk hm ha (M := boxC 1 at_ :: digC xs :: g) (b := 0) (d := 1) rfl rfl
theorem x_drawL (hG : G.fn 1 = some b__law_draw) (hk : 1 ≤ k) (hm : 0 < m) (ha : at_ < 1000000000000) : callP (runF G k) 1 [.cell 1, .int m] (digC xs :: boxC 0 at_ :: g) = .ok (.int (dr xs at_ m)) (digC xs :: boxC 0 (at_ + 1) :: g) :=
  s_draw hG hk hm ha (M := digC xs :: boxC 0 at_ :: g) (b := 1) (d := 0) rfl rfl
/-- a pick from the list at t -/
def pickR (G : Pg) (k t at_ : Nat) (xs : List Int) (g : Mem) (_ : Option (List D)) : R D := callP (runF G k) 2 [.cell 0, .cell (t + 2)] (boxC 1 at_ :: digC xs :: g)
/-- .. what is known of it -/
structure PickAt (g : Mem) (t : Nat) (ds : List D) : Prop where
  e : lstC g[t]? = some ds
theorem lstC_eq {c : Option Cell} (h : lstC c = some ds) : c = some (.lst ds) := by
  unfold lstC at h
  split at h
  · cases h; rfl
  · cases h
theorem x_pick (hG : G.fn 1 = some b__law_draw) (hG2 : G.fn 2 = some b__law_pick) (hk : 2 ≤ k) (ha : at_ < 1000000000000) (hl : 0 < ds.length) (hs : D.pures ds = true) (e : g[t]? = some (.lst ds)) :
    callP (runF G k) 2 [.cell 0, .cell (t + 2)] (boxC 1 at_ :: digC xs :: g) = .ok (gt ds (dr xs at_ ds.length)) (boxC 1 (at_ + 1) :: digC xs :: g) :=
  s_pick hG hG2 hk hl hs ha (M := boxC 1 at_ :: digC xs :: g) (b := 0) (d := 1) (t := t + 2) rfl rfl e (by omega) (by omega)
end
/-- a pick, as a function of the memory -/
def pickF (xs : List Int) (at_ : Nat) (g : Mem) (call : R D) : Option (List D) → R D
  | some ds => if 0 < ds.length ∧ D.pures ds = true then .ok (gt ds (dr xs at_ ds.length)) (boxC 1 (at_ + 1) :: digC xs :: g) else call
  | none => call
theorem x_pickF {G : Pg} {k : Nat} {t at_ : Nat} {xs : List Int} {g : Mem} (hG : G.fn 1 = some b__law_draw) (hG2 : G.fn 2 = some b__law_pick) (hk : 2 ≤ k) (ha : at_ < 1000000000000) :
    callP (runF G k) 2 [.cell 0, .cell (t + 2)] (boxC 1 at_ :: digC xs :: g) = pickF xs at_ g (pickR G k t at_ xs g none) (lstC g[t]?) := by
  cases h : lstC g[t]? with
  | none => rfl
  | some ds =>
    by_cases hc : 0 < ds.length ∧ D.pures ds = true
    · simp only [pickF, if_pos hc]
      exact x_pick hG hG2 hk ha hc.1 hc.2 (lstC_eq h)
    · simp only [pickF, if_neg hc]
      rfl
section
variable {xs : List Int} {at_ : Nat} {g : Mem} {c : R D} {ds : List D}
theorem pickF_I (hl : 0 < ds.length) (hs : ds.all isI = true) : pickF xs at_ g c (some ds) = .ok (.int (pkI xs at_ ds)) (boxC 1 (at_ + 1) :: digC xs :: g) := by
  unfold pickF
  simp only [if_pos (And.intro hl (pures_I hs))]
  rw [inI_of (List.all_eq_true.mp hs _ (gt_pk (xs := xs) (at_ := at_) hl))]
  rfl
theorem pickF_S (hl : 0 < ds.length) (hs : ds.all isS = true) : pickF xs at_ g c (some ds) = .ok (.str (pkS xs at_ ds)) (boxC 1 (at_ + 1) :: digC xs :: g) := by
  unfold pickF
  simp only [if_pos (And.intro hl (pures_S hs))]
  rw [inS_of (List.all_eq_true.mp hs _ (gt_pk (xs := xs) (at_ := at_) hl))]
  rfl
theorem pickF_D (hl : 0 < ds.length) (hs : D.pures ds = true) : pickF xs at_ g c (some ds) = .ok (gt ds (dr xs at_ ds.length)) (boxC 1 (at_ + 1) :: digC xs :: g) := by
  unfold pickF
  simp only [if_pos (And.intro hl hs)]
end
end J

namespace J
open PySem L2
/-! ## calls that only read, whose cells name no others -/
def ddup : List Nat → List Nat → List Nat
  | [], acc => acc
  | x :: t, acc => if acc.contains x then ddup t acc else ddup t (acc ++ [x])
theorem ddup_mem {n : Nat} : ∀ {t acc : List Nat}, n ∈ ddup t acc ↔ n ∈ acc ∨ n ∈ t
  | [], acc => by simp [ddup]
  | x :: t, acc => by
    simp only [ddup]
    split
    · rename_i h
      have h : x ∈ acc := by simpa using h
      rw [ddup_mem]
      constructor
      · rintro (h1 | h1)
        · exact .inl h1
        · exact .inr (List.mem_cons_of_mem _ h1)
      · rintro (h1 | h1)
        · exact .inl h1
        · rcases List.mem_cons.mp h1 with rfl | h1
          · exact .inl h
          · exact .inr h1
    · rw [ddup_mem]
      simp only [List.mem_append, List.mem_cons, List.not_mem_nil, or_false]
      exact or_assoc
def FlatAt (M : Mem) (n : Nat) : Prop := ∃ c, M[n]? = some c ∧ c.refs = []
theorem reach_flat {M : Mem} : ∀ {t acc : List Nat} {k : Nat}, t.length < k → (∀ n ∈ t, FlatAt M n) → reach M k t acc = ddup t acc
  | [], acc, k, _, _ => by rw [reach_nil]; rfl
  | x :: t, acc, 0, h, _ => by simp at h
  | x :: t, acc, k + 1, h, hf => by
    obtain ⟨c, h1, h2⟩ := hf x List.mem_cons_self
    have hl : t.length < k := by simpa using h
    have ht : ∀ n ∈ t, FlatAt M n := fun n hn => hf n (List.mem_cons_of_mem _ hn)
    simp only [reach, ddup, h1, h2, List.nil_append]
    split
    · exact reach_flat hl ht
    · exact reach_flat hl ht
theorem posL_mem : ∀ {l : List Nat} {n : Nat}, n ∈ l → ∃ i, posL l n = some i ∧ i < l.length
  | [], n, h => by cases h
  | a :: r, n, h => by
    simp only [posL]
    by_cases e : a = n
    · subst e; exact ⟨0, by simp, by simp⟩
    · have h' : n ∈ r := by
        rcases List.mem_cons.mp h with rfl | h
        · exact absurd rfl e
        · exact h
      obtain ⟨i, h1, h2⟩ := posL_mem h'
      exact ⟨i + 1, by simp [e, h1], by simpa using h2⟩
mutual
theorem ren_some {f : Nat → Option Nat} : ∀ (d : D), (∀ n ∈ d.refs, (f n).isSome = true) → ∃ e, d.ren f = some e
  | .non, _ => ⟨_, rfl⟩
  | .bl _, _ => ⟨_, rfl⟩
  | .int _, _ => ⟨_, rfl⟩
  | .str _, _ => ⟨_, rfl⟩
  | .tup ds, h => by
    obtain ⟨es, h⟩ := rens_some ds (by simpa only [D.refs] using h)
    exact ⟨.tup es, by simp only [D.ren, h, Option.map_some]⟩
  | .rol ds, h => by
    obtain ⟨es, h⟩ := rens_some ds (by simpa only [D.refs] using h)
    exact ⟨.rol es, by simp only [D.ren, h, Option.map_some]⟩
  | .cell n, h => by
    obtain ⟨m, h⟩ := Option.isSome_iff_exists.mp (h n (by simp [D.refs]))
    exact ⟨.cell m, by simp only [D.ren, h, Option.map_some]⟩
theorem rens_some {f : Nat → Option Nat} : ∀ (ds : List D), (∀ n ∈ D.refsL ds, (f n).isSome = true) → ∃ es, D.rens f ds = some es
  | [], _ => ⟨_, rfl⟩
  | d :: r, h => by
    simp only [D.refsL, List.mem_append] at h
    obtain ⟨e, h1⟩ := ren_some d fun n hn => h n (.inl hn)
    obtain ⟨es, h2⟩ := rens_some r fun n hn => h n (.inr hn)
    exact ⟨e :: es, by simp only [D.rens, h1, h2, Option.bind_some, Option.map_some]⟩
end
mutual
theorem ren_back {f g : Nat → Option Nat} : ∀ (d e : D), d.ren f = some e → (∀ n ∈ d.refs, ∀ m, f n = some m → g m = some n) → e.ren g = some d
  | .non, e, h, _ => by cases h; rfl
  | .bl _, e, h, _ => by cases h; rfl
  | .int _, e, h, _ => by cases h; rfl
  | .str _, e, h, _ => by cases h; rfl
  | .tup ds, e, h, hb => by
    simp only [D.ren, Option.map_eq_some_iff] at h
    obtain ⟨es, h1, rfl⟩ := h
    simp only [D.ren, rens_back ds es h1 (by simpa only [D.refs] using hb), Option.map_some]
  | .rol ds, e, h, hb => by
    simp only [D.ren, Option.map_eq_some_iff] at h
    obtain ⟨es, h1, rfl⟩ := h
    simp only [D.ren, rens_back ds es h1 (by simpa only [D.refs] using hb), Option.map_some]
  | .cell n, e, h, hb => by
    simp only [D.ren, Option.map_eq_some_iff] at h
    obtain ⟨m, h1, rfl⟩ := h
    simp only [D.ren, hb n (by simp [D.refs]) m h1, Option.map_some]
theorem rens_back {f g : Nat → Option Nat} : ∀ (ds es : List D), D.rens f ds = some es → (∀ n ∈ D.refsL ds, ∀ m, f n = some m → g m = some n) → D.rens g es = some ds
  | [], es, h, _ => by cases h; rfl
  | d :: r, es, h, hb => by
    simp only [D.rens, Option.bind_eq_some_iff, Option.map_eq_some_iff] at h
    obtain ⟨e, h1, t, h2, rfl⟩ := h
    simp only [D.refsL, List.mem_append] at hb
    simp only [D.rens, ren_back d e h1 fun n hn => hb n (.inl hn), rens_back r t h2 fun n hn => hb n (.inr hn), Option.bind_some, Option.map_some]
end
mutual
theorem ren_refs {f : Nat → Option Nat} : ∀ (d e : D), d.ren f = some e → ∀ m ∈ e.refs, ∃ n ∈ d.refs, f n = some m
  | .non, e, h, m, hm => by cases h; simp [D.refs] at hm
  | .bl _, e, h, m, hm => by cases h; simp [D.refs] at hm
  | .int _, e, h, m, hm => by cases h; simp [D.refs] at hm
  | .str _, e, h, m, hm => by cases h; simp [D.refs] at hm
  | .tup ds, e, h, m, hm => by
    simp only [D.ren, Option.map_eq_some_iff] at h
    obtain ⟨es, h1, rfl⟩ := h
    simpa only [D.refs] using rens_refs ds es h1 m (by simpa only [D.refs] using hm)
  | .rol ds, e, h, m, hm => by
    simp only [D.ren, Option.map_eq_some_iff] at h
    obtain ⟨es, h1, rfl⟩ := h
    simpa only [D.refs] using rens_refs ds es h1 m (by simpa only [D.refs] using hm)
  | .cell n, e, h, m, hm => by
    simp only [D.ren, Option.map_eq_some_iff] at h
    obtain ⟨j, h1, rfl⟩ := h
    simp only [D.refs, List.mem_singleton] at hm
    subst hm
    exact ⟨n, by simp [D.refs], h1⟩
theorem rens_refs {f : Nat → Option Nat} : ∀ (ds es : List D), D.rens f ds = some es → ∀ m ∈ D.refsL es, ∃ n ∈ D.refsL ds, f n = some m
  | [], es, h, m, hm => by cases h; simp [D.refsL] at hm
  | d :: r, es, h, m, hm => by
    simp only [D.rens, Option.bind_eq_some_iff, Option.map_eq_some_iff] at h
    obtain ⟨e, h1, t, h2, rfl⟩ := h
    simp only [D.refsL, List.mem_append] at hm
    rcases hm with hm | hm
    · obtain ⟨n, h3, h4⟩ := ren_refs d e h1 m hm
      exact ⟨n, by simp [D.refsL, h3], h4⟩
    · obtain ⟨n, h3, h4⟩ := rens_refs r t h2 m hm
      exact ⟨n, by simp [D.refsL, h3], h4⟩
end
mutual
theorem ren_nil {f : Nat → Option Nat} : ∀ (d : D), d.refs = [] → d.ren f = some d
  | .non, _ => rfl
  | .bl _, _ => rfl
  | .int _, _ => rfl
  | .str _, _ => rfl
  | .tup ds, h => by simp only [D.ren, rens_nil ds (by simpa only [D.refs] using h), Option.map_some]
  | .rol ds, h => by simp only [D.ren, rens_nil ds (by simpa only [D.refs] using h), Option.map_some]
  | .cell n, h => by simp [D.refs] at h
theorem rens_nil {f : Nat → Option Nat} : ∀ (ds : List D), D.refsL ds = [] → D.rens f ds = some ds
  | [], _ => rfl
  | d :: r, h => by
    simp only [D.refsL, List.append_eq_nil_iff] at h
    simp only [D.rens, ren_nil d h.1, rens_nil r h.2, Option.bind_some, Option.map_some]
end
theorem renK_nil {f : Nat → Option Nat} : ∀ (kvs : List (Key × D)), refsK kvs = [] → renK f kvs = some kvs
  | [], _ => rfl
  | p :: r, h => by
    simp only [refsK, List.append_eq_nil_iff] at h
    simp only [renK, ren_nil p.2 h.1, renK_nil r h.2, Option.bind_some, Option.map_some]
theorem cell_ren_nil {f : Nat → Option Nat} {c : Cell} (h : c.refs = []) : c.ren f = some c := by
  cases c with
  | lst ds => simp only [Cell.ren, rens_nil ds h, Option.map_some]
  | dic kvs => simp only [Cell.ren, renK_nil kvs h, Option.map_some]
  | frd kvs => simp only [Cell.ren, renK_nil kvs h, Option.map_some]
theorem subM_flat {M : Mem} {f : Nat → Option Nat} : ∀ {L : List Nat}, (∀ n ∈ L, FlatAt M n) → ∃ M0, subM M f L = some M0 ∧ M0.length = L.length ∧ ∀ i : Nat, i < L.length → M0[i]? = L[i]?.bind fun n => M[n]?
  | [], _ => ⟨[], rfl, rfl, by simp⟩
  | n :: r, h => by
    obtain ⟨c, h1, h2⟩ := h n List.mem_cons_self
    obtain ⟨M0, h3, h4, h5⟩ := subM_flat (f := f) (L := r) fun n hn => h n (List.mem_cons_of_mem _ hn)
    refine ⟨c :: M0, by simp only [subM, h1, cell_ren_nil h2, h3, Option.bind_some, Option.map_some], by simp [h4], ?_⟩
    rintro (_ | i) hi
    · simp [h1]
    · simpa using h5 i (by simpa using hi)
theorem subM_pre {M : Mem} {f : Nat → Option Nat} {g : Mem} : ∀ {k : Nat} {M0 : Mem} {j : Nat}, j + k = M0.length → (∀ c ∈ M0, c.refs = []) → (∀ i : Nat, (M0 ++ g)[i]? = M[i]? ∨ M0.length ≤ i) → subM M f (List.range' j k) = some (M0.drop j)
  | 0, M0, j, h, _, _ => by simp [List.range', subM]; omega
  | k + 1, M0, j, h, hc, hm => by
    have hj : j < M0.length := by omega
    have e : M[j]? = some M0[j] := by
      rcases hm j with h | h
      · rw [← h, List.getElem?_append_left hj]; simp [hj]
      · omega
    rw [List.range'_succ]
    simp only [subM, e, Option.bind_some, cell_ren_nil (hc M0[j] (List.getElem_mem hj)), subM_pre (k := k) (M0 := M0) (j := j + 1) (by omega) hc hm, Option.map_some]
    rw [List.drop_eq_getElem_cons hj]
theorem setAll_id : ∀ {L : List Nat} {M M0 : Mem}, (∀ (i : Nat) (c : Cell), M0[i]? = some c → ∃ n : Nat, L[i]? = some n ∧ M[n]? = some c) → setAll M L M0 = M
  | [], M, M0, h => by cases M0 <;> rfl
  | n :: L, M, [], h => rfl
  | n :: L, M, c :: M0, h => by
    obtain ⟨m, h1, h2⟩ := h 0 c (by simp)
    simp only [List.getElem?_cons_zero, Option.some.injEq] at h1
    subst h1
    simp only [setAll, set_id h2]
    exact setAll_id fun i c hi => by simpa using h (i + 1) c (by simpa using hi)
/-- cells below n name cells below n -/
theorem reach_low {M : Mem} {n : Nat} (hM : ∀ j, j < n → ∀ c, M[j]? = some c → ∀ r ∈ c.refs, r < n) : ∀ {k : Nat} {t acc : List Nat}, (∀ j ∈ t, j < n) → (∀ j ∈ acc, j < n) → ∀ j ∈ reach M k t acc, j < n
  | 0, t, acc, _, ha, j, hj => ha j (by simpa [reach] using hj)
  | k + 1, [], acc, _, ha, j, hj => ha j (by simpa [reach] using hj)
  | k + 1, x :: t, acc, ht, ha, j, hj => by
    have hx := ht x List.mem_cons_self
    have ht' : ∀ j ∈ t, j < n := fun j h => ht j (List.mem_cons_of_mem _ h)
    simp only [reach] at hj
    split at hj
    · exact reach_low hM ht' ha j hj
    · split at hj
      · rename_i c e
        refine reach_low hM (fun j h => ?_) (fun j h => ?_) j hj
        · rcases List.mem_append.mp h with h | h
          · exact hM x hx c e j h
          · exact ht' j h
        · rcases List.mem_append.mp h with h | h
          · exact ha j h
          · rw [List.mem_singleton.mp h]; exact hx
      · exact ha j hj
theorem newC_nil {n : Nat} {ds : List D} {M1 : Mem} (hM : ∀ j, j < n → ∀ c, M1[j]? = some c → ∀ r ∈ c.refs, r < n) (hd : ∀ r ∈ D.refsL ds, r < n) : newC n ds M1 = [] := by
  unfold newC
  rw [List.filter_eq_nil_iff]
  intro j hj
  have h := reach_low hM (fun j h => by
    rcases List.mem_append.mp h with h | h
    · exact hd j h
    · exact List.mem_range.mp h) (by simp) j hj
  simp only [decide_eq_true_eq]
  omega
/-- a call that reads cells which name no others, whose value names no others than these -/
theorem callP_flat {run : Nat → List D → Mem → R D} {f : Nat} {ds : List D} {M : Mem} {v : D} (hl : (D.refsL ds).length < 1000000) (hf : ∀ n ∈ D.refsL ds, FlatAt M n) (hv : ∀ n ∈ v.refs, n ∈ D.refsL ds)
    (h : ∀ (φ : Nat → Option Nat) (ds0 : List D) (M0 : Mem), D.rens φ ds = some ds0 → (∀ n ∈ D.refsL ds, ∃ m, φ n = some m ∧ M0[m]? = M[n]?) → ∃ v0 g, v.ren φ = some v0 ∧ run f ds0 M0 = .ok v0 (M0 ++ g)) :
    callP run f ds M = .ok v M := by
  have er : reach M walkF (D.refsL ds) [] = ddup (D.refsL ds) [] := reach_flat (by rw [wF]; omega) hf
  have hm : ∀ n, n ∈ ddup (D.refsL ds) [] ↔ n ∈ D.refsL ds := fun n => by rw [ddup_mem]; simp
  have hnd : (ddup (D.refsL ds) []).Nodup := by rw [← er]; exact reach_nd _ _ _ (by simp)
  generalize hL : ddup (D.refsL ds) [] = L at er hm hnd
  obtain ⟨ds0, h0⟩ := rens_some (f := posL L) ds fun n hn => by
    obtain ⟨i, h, _⟩ := posL_mem ((hm n).mpr hn)
    rw [h]; rfl
  obtain ⟨M0, h1, h2, h3⟩ := subM_flat (M := M) (f := posL L) (L := L) fun n hn => hf n ((hm n).mp hn)
  have hc : ∀ c ∈ M0, c.refs = [] := by
    intro c hc
    obtain ⟨i, hi, e⟩ := List.getElem_of_mem hc
    have e' : M0[i]? = some c := by rw [← e]; simp [hi]
    rw [h3 i (by omega), Option.bind_eq_some_iff] at e'
    obtain ⟨n, e1, e2⟩ := e'
    obtain ⟨c', e3, e4⟩ := hf n ((hm n).mp (List.mem_of_getElem? e1))
    rw [e3] at e2
    cases e2
    exact e4
  obtain ⟨v0, g, h4, h5⟩ := h (posL L) ds0 M0 h0 fun n hn => by
    obtain ⟨i, q1, q2⟩ := posL_mem ((hm n).mpr hn)
    refine ⟨i, q1, ?_⟩
    rw [h3 i q2, posL_at q1]
    rfl
  have hlow : ∀ r ∈ D.refsL [v0], r < L.length := by
    intro r hr
    simp only [D.refsL, List.append_nil] at hr
    obtain ⟨n, q1, q2⟩ := ren_refs v v0 h4 r hr
    have q3 := posL_at q2
    exact (List.getElem?_eq_some_iff.mp q3).1
  have hnew : newC L.length [v0] (M0 ++ g) = [] := newC_nil (fun j hj c e r hr => by
    rw [List.getElem?_append_left (by omega)] at e
    rw [hc c (List.mem_of_getElem? e)] at hr
    cases hr) hlow
  have hb : D.rens (backG L [] M.length) [v0] = some [v] := rens_back (f := posL L) [v] [v0] (by simp only [D.rens, h4, Option.bind_some, Option.map_some]) fun n hn m hm' => by
    have q3 := posL_at hm'
    have q4 := (List.getElem?_eq_some_iff.mp q3).1
    simp only [backG, if_pos q4, q3]
  have hs : subM (M0 ++ g) (backG L [] M.length) (List.range L.length) = some M0 := by
    rw [List.range_eq_range']
    have := subM_pre (M := M0 ++ g) (f := backG L [] M.length) (g := g) (k := L.length) (M0 := M0) (j := 0) (by omega) hc fun i => .inl rfl
    simpa using this
  have hi : setAll M L M0 = M := setAll_id fun i c hi => by
    have hi' : i < L.length := by rw [← h2]; exact (List.getElem?_eq_some_iff.mp hi).1
    rw [h3 i hi', Option.bind_eq_some_iff] at hi
    exact hi
  have hlv : leave L [v0] M (M0 ++ g) = some ([v], M) := by
    simp only [leave, hnew, hb, hs, Option.bind_some, subM, Option.map_some, List.append_nil, hi]
  simp only [callP, er, h0, h1, h5, hlv]
end J

namespace J
open PySem L2
/-! ## more of what simp may use -/
def leq : List Nat → List Nat → Bool
  | [], [] => true
  | a :: r, b :: t => a == b && leq r t
  | _, _ => false
theorem leq_eq : ∀ (a b : List Nat), leq a b = decide (a = b)
  | [], [] => rfl
  | [], _ :: _ => rfl
  | _ :: _, [] => rfl
  | a :: r, b :: t => by
    simp only [leq, leq_eq r t]
    by_cases h : a = b
    · subst h; simp
    · simp [h]
theorem dec_str {l l' : List Nat} : decide ((⟨l.toArray⟩ : PySem.Str) = ⟨l'.toArray⟩) = leq l l' := by
  rw [leq_eq]
  congr 1
  simp
theorem prop_str {l l' : List Nat} : ((⟨l.toArray⟩ : PySem.Str) = ⟨l'.toArray⟩) = (leq l l' = true) := by
  rw [leq_eq]
  simp
theorem leq_cc {a b : Nat} {r t : List Nat} : leq (a :: r) (b :: t) = (a == b && leq r t) := (Eq.symm rfl).symm
theorem leq_nn : leq [] [] = true := (Eq.symm rfl).symm
theorem leq_nc {b : Nat} {t : List Nat} : leq [] (b :: t) = false := (Eq.symm rfl).symm
theorem leq_cn {b : Nat} {t : List Nat} : leq (b :: t) [] = false := (Eq.symm rfl).symm
section
variable {α : Type} {a b c d e f g h : α} {r : List α}
theorem atI_natA {xs : List α} {n : Nat} (h : n < xs.length) : atI xs (n : Int) = some xs[n] := by
  unfold atI ixN
  rw [if_pos (Int.natCast_nonneg n), if_pos (by omega)]
  simp [h]
theorem at_0 : atI (a :: r) 0 = some a := atI_natA (n := 0) (by simp)
theorem at_1 : atI (a :: b :: r) 1 = some b := atI_natA (n := 1) (by simp)
theorem at_2 : atI (a :: b :: c :: r) 2 = some c := atI_natA (n := 2) (by simp)
theorem at_3 : atI (a :: b :: c :: d :: r) 3 = some d := atI_natA (n := 3) (by simp)
theorem at_4 : atI (a :: b :: c :: d :: e :: r) 4 = some e := atI_natA (n := 4) (by simp)
theorem at_5 : atI (a :: b :: c :: d :: e :: f :: r) 5 = some f := atI_natA (n := 5) (by simp)
theorem at_6 : atI (a :: b :: c :: d :: e :: f :: g :: r) 6 = some g := atI_natA (n := 6) (by simp)
theorem at_m1 : atI [a] (-1) = some a := by simp [atI, ixN]
theorem cut_n {xs : List α} {n : Nat} (h : n ≤ xs.length) : cutD xs (some (n : Int)) none = xs.drop n := by
  have e : HT.sIx xs.length 0 (some (n : Int)) = n := by
    rw [HT.sIx_nat]
    omega
  have e2 : HT.sIx xs.length xs.length none = xs.length := by
    rfl
  unfold cutD
  rw [e, e2]
  exact List.take_of_length_le (by simp)
theorem cut_1 : cutD (a :: r) (some 1) none = r := cut_n (n := 1) (by simp)
theorem cut_2 : cutD (a :: b :: r) (some 2) none = r := cut_n (n := 2) (by simp)
theorem cut_3 : cutD (a :: b :: c :: r) (some 3) none = r := cut_n (n := 3) (by simp)
end
theorem isE_c {α : Type} {a : α} {r : List α} : (a :: r).isEmpty = false := rfl
theorem isE_n {α : Type} : ([] : List α).isEmpty = true := rfl
theorem fl_s {s : PySem.Str} : flatD (.str s) = true := (Eq.symm rfl).symm
theorem fl_i {i : Int} : flatD (.int i) = true := (Eq.symm rfl).symm
theorem fl_b {b : Bool} : flatD (.bl b) = true := (Eq.symm rfl).symm
theorem fl_n : flatD .non = true := (Eq.symm rfl).symm
theorem fl_t {ds : List D} : flatD (.tup ds) = false := (Eq.symm rfl).symm
theorem cst_0 : ((0 : Nat) : Int) = 0 := (Eq.symm rfl).symm
theorem cst_1 : ((1 : Nat) : Int) = 1 := (Eq.symm rfl).symm
theorem cst_2 : ((2 : Nat) : Int) = 2 := (Eq.symm rfl).symm
theorem cst_3 : ((3 : Nat) : Int) = 3 := (Eq.symm rfl).symm
theorem cst_4 : ((4 : Nat) : Int) = 4 := (Eq.symm rfl).symm
theorem cst_5 : ((5 : Nat) : Int) = 5 := (Eq.symm rfl).symm
theorem cst_6 : ((6 : Nat) : Int) = 6 := (Eq.symm rfl).symm
theorem cst_7 : ((7 : Nat) : Int) = 7 := (Eq.symm rfl).symm
theorem cst_8 : ((8 : Nat) : Int) = 8 := (Eq.symm rfl).symm
theorem cst_9 : ((9 : Nat) : Int) = 9 := (Eq.symm rfl).symm
theorem isiT_t {t : Ty} : isiT (some t) t = true := by cases t <;> rfl
end J

namespace J
open PySem L2
/-- a comprehension that changes nothing and keeps all -/
theorem compL_map {asg : D → Option Rho} {tst : Rho → Mem → R Bool} {elt : Rho → Mem → R D} {srcs : List (Nat × Cell)} {g : D → D} {M : Mem} (hc : chk M srcs = true) : ∀ {ds acc : List D}, acc.length + ds.length ≤ big →
    (∀ d ∈ ds, ∃ ρ, asg d = some ρ ∧ tst ρ M = .ok true M ∧ elt ρ M = .ok (g d) M) → compL asg tst elt srcs ds acc M = .ok (acc ++ ds.map g) M
  | [], acc, _, _ => by simp [compL, hc]
  | d :: r, acc, hl, h => by
    obtain ⟨ρ, h1, h2, h3⟩ := h d List.mem_cons_self
    simp only [List.length_cons] at hl
    have ih := compL_map (ds := r) (acc := acc ++ [g d]) hc (by simp only [List.length_append, List.length_cons, List.length_nil]; omega) fun d hd => h d (List.mem_cons_of_mem _ hd)
    have hb : acc.length < big := by omega
    simp only [compL, hc, h1, h2, h3, x_bind, if_true, hb, ih, List.map_cons, List.append_assoc, List.singleton_append]
/-- a while loop, by a measure -/
theorem whlL_by {tst : Rho → Mem → R Bool} {body : Rho → Mem → R F} (I : Nat → Rho → Mem → Prop) (Q : F → Mem → Prop)
    (h : ∀ m ρ M, I m ρ M → (tst ρ M = .ok false M ∧ Q (.nx ρ) M) ∨ (tst ρ M = .ok true M ∧ ((∃ ρ' M' m', body ρ M = .ok (.nx ρ') M' ∧ m' < m ∧ I m' ρ' M') ∨ ∃ d M', body ρ M = .ok (.rt d) M' ∧ Q (.rt d) M'))) :
    ∀ (n m : Nat) (ρ : Rho) (M : Mem), m < n → I m ρ M → ∃ f M', whlL tst body n ρ M = .ok f M' ∧ Q f M'
  | 0, m, ρ, M, hn, _ => by omega
  | n + 1, m, ρ, M, hn, hi => by
    rcases h m ρ M hi with ⟨h1, h2⟩ | ⟨h1, ⟨ρ', M', m', h2, h3, h4⟩ | ⟨d, M', h2, h3⟩⟩
    · exact ⟨_, _, by simp only [whlL, h1, x_bindS, Bool.false_eq_true, if_false], h2⟩
    · obtain ⟨f, M2, h5, h6⟩ := whlL_by I Q h n m' ρ' M' (by omega) h4
      exact ⟨f, M2, by simp only [whlL, h1, x_bindS, if_true, h2, h5], h6⟩
    · exact ⟨_, _, by simp only [whlL, h1, x_bindS, if_true, h2], h3⟩
/-! ## a call with its cells said -/
mutual
theorem ren_congr {f g : Nat → Option Nat} : ∀ (d : D), (∀ n ∈ d.refs, f n = g n) → d.ren f = d.ren g
  | .non, _ => rfl
  | .bl _, _ => rfl
  | .int _, _ => rfl
  | .str _, _ => rfl
  | .tup ds, h => by simp only [D.ren, rens_congr ds (by simpa only [D.refs] using h)]
  | .rol ds, h => by simp only [D.ren, rens_congr ds (by simpa only [D.refs] using h)]
  | .cell n, h => by simp only [D.ren, h n (by simp [D.refs])]
theorem rens_congr {f g : Nat → Option Nat} : ∀ (ds : List D), (∀ n ∈ D.refsL ds, f n = g n) → D.rens f ds = D.rens g ds
  | [], _ => rfl
  | d :: r, h => by
    simp only [D.refsL, List.mem_append] at h
    simp only [D.rens, ren_congr d fun n hn => h n (.inl hn), rens_congr r fun n hn => h n (.inr hn)]
end
theorem renK_congr {f g : Nat → Option Nat} : ∀ (kvs : List (Key × D)), (∀ n ∈ refsK kvs, f n = g n) → renK f kvs = renK g kvs
  | [], _ => rfl
  | p :: r, h => by
    simp only [refsK, List.mem_append] at h
    simp only [renK, ren_congr p.2 fun n hn => h n (.inl hn), renK_congr r fun n hn => h n (.inr hn)]
theorem cell_congr {f g : Nat → Option Nat} {c : Cell} (h : ∀ n ∈ c.refs, f n = g n) : c.ren f = c.ren g := by
  cases c with
  | lst ds => simp only [Cell.ren, rens_congr ds h]
  | dic kvs => simp only [Cell.ren, renK_congr kvs h]
  | frd kvs => simp only [Cell.ren, renK_congr kvs h]
theorem subM_congr {M N : Mem} {f g : Nat → Option Nat} : ∀ {L : List Nat}, (∀ n ∈ L, ∀ c, M[n]? = some c → N[n]? = some c ∧ ∀ r ∈ c.refs, f r = g r) → (∀ n ∈ L, N[n]? = M[n]?) → subM M f L = subM N g L
  | [], _, _ => rfl
  | n :: r, h, h' => by
    have e := h' n List.mem_cons_self
    simp only [subM, e, subM_congr (L := r) (fun n hn => h n (List.mem_cons_of_mem _ hn)) fun n hn => h' n (List.mem_cons_of_mem _ hn)]
    cases q : M[n]? with
    | none => rfl
    | some c => simp only [Option.bind_some, cell_congr (h n List.mem_cons_self c q).2]
theorem callP_gen {run : Nat → List D → Mem → R D} {f : Nat} {ds ds0 : List D} {M M0 M0' g ol : Mem} {v v0 : D} {L : List Nat} (er : reach M walkF (D.refsL ds) [] = L) (e0 : D.rens (posL L) ds = some ds0) (e1 : subM M (posL L) L = some M0)
    (h : run f ds0 M0 = .ok v0 (M0' ++ g)) (hl : M0'.length = L.length) (hc : ∀ c ∈ M0', ∀ r ∈ c.refs, r < L.length) (hv : ∀ r ∈ v0.refs, r < L.length)
    (hb : v0.ren (fun j => L[j]?) = some v) (hs : subM M0' (fun j => L[j]?) (List.range L.length) = some ol) : callP run f ds M = .ok v (setAll M L ol) := by
  have hnew : newC L.length [v0] (M0' ++ g) = [] := newC_nil (fun j hj c e r hr => by
    rw [List.getElem?_append_left (by omega)] at e
    exact hc c (List.mem_of_getElem? e) r hr) (by simpa [D.refsL] using hv)
  have q : ∀ j, j < L.length → backG L [] M.length j = L[j]? := fun j hj => by simp only [backG, if_pos hj]
  have hb' : v0.ren (backG L [] M.length) = some v := by
    rw [← hb]
    exact ren_congr v0 fun r hr => q r (hv r hr)
  have hs' : subM (M0' ++ g) (backG L [] M.length) (List.range L.length) = some ol := by
    rw [← hs]
    exact subM_congr (fun j hj c e => by
      have hj' := List.mem_range.mp hj
      rw [List.getElem?_append_left (by omega)] at e
      exact ⟨e, fun r hr => q r (hc c (List.mem_of_getElem? e) r hr)⟩) (fun j hj => by
      have hj' := List.mem_range.mp hj
      exact (List.getElem?_append_left (by omega)).symm)
  have hlv : leave L [v0] M (M0' ++ g) = some ([v], setAll M L ol) := by
    simp only [leave, hnew, D.rens, hb', hs', Option.bind_some, subM, Option.map_some, List.append_nil]
  simp only [callP, er, e0, e1, h, hlv]
end J

namespace Lk02
open PySem J
def top (i : Nat) : Stmt := PySem.Challenge.pw_stairwright_k02_words_and_offsets.main.body.getD i (.Pass ⟨0, 0, 0, 0⟩)
abbrev z_ : Str := ⟨#[]⟩
abbrev z_MORE : Str := ⟨#[77, 79, 82, 69]⟩
abbrev z_OPS : Str := ⟨#[79, 80, 83]⟩
abbrev z_PLAIN : Str := ⟨#[80, 76, 65, 73, 78]⟩
abbrev z_WORDS : Str := ⟨#[87, 79, 82, 68, 83]⟩
abbrev z__law_asm : Str := ⟨#[95, 108, 97, 119, 95, 97, 115, 109]⟩
abbrev z__law_asm_function : Str := ⟨#[95, 108, 97, 119, 95, 97, 115, 109, 95, 102, 117, 110, 99, 116, 105, 111, 110]⟩
abbrev z__law_digits : Str := ⟨#[95, 108, 97, 119, 95, 100, 105, 103, 105, 116, 115]⟩
abbrev z__law_draw : Str := ⟨#[95, 108, 97, 119, 95, 100, 114, 97, 119]⟩
abbrev z__law_like : Str := ⟨#[95, 108, 97, 119, 95, 108, 105, 107, 101]⟩
abbrev z__law_number : Str := ⟨#[95, 108, 97, 119, 95, 110, 117, 109, 98, 101, 114]⟩
abbrev z__law_pick : Str := ⟨#[95, 108, 97, 119, 95, 112, 105, 99, 107]⟩
abbrev z__law_row : Str := ⟨#[95, 108, 97, 119, 95, 114, 111, 119]⟩
abbrev z__law_size : Str := ⟨#[95, 108, 97, 119, 95, 115, 105, 122, 101]⟩
abbrev z_add : Str := ⟨#[97, 100, 100]⟩
abbrev z_ahead : Str := ⟨#[97, 104, 101, 97, 100]⟩
abbrev z_and : Str := ⟨#[97, 110, 100]⟩
abbrev z_asm : Str := ⟨#[97, 115, 109]⟩
abbrev z_at : Str := ⟨#[97, 116]⟩
abbrev z_bare : Str := ⟨#[98, 97, 114, 101]⟩
abbrev z_base : Str := ⟨#[98, 97, 115, 101]⟩
abbrev z_bool : Str := ⟨#[98, 111, 111, 108]⟩
abbrev z_box : Str := ⟨#[98, 111, 120]⟩
abbrev z_call : Str := ⟨#[99, 97, 108, 108]⟩
abbrev z_callee : Str := ⟨#[99, 97, 108, 108, 101, 101]⟩
abbrev z_calls : Str := ⟨#[99, 97, 108, 108, 115]⟩
abbrev z_cell : Str := ⟨#[99, 101, 108, 108]⟩
abbrev z_dict : Str := ⟨#[100, 105, 99, 116]⟩
abbrev z_digits : Str := ⟨#[100, 105, 103, 105, 116, 115]⟩
abbrev z_div : Str := ⟨#[100, 105, 118]⟩
abbrev z_due : Str := ⟨#[100, 117, 101]⟩
abbrev z_enter : Str := ⟨#[101, 110, 116, 101, 114]⟩
abbrev z_eq : Str := ⟨#[101, 113]⟩
abbrev z_first : Str := ⟨#[102, 105, 114, 115, 116]⟩
abbrev z_found : Str := ⟨#[102, 111, 117, 110, 100]⟩
abbrev z_function : Str := ⟨#[102, 117, 110, 99, 116, 105, 111, 110]⟩
abbrev z_get : Str := ⟨#[103, 101, 116]⟩
abbrev z_give : Str := ⟨#[103, 105, 118, 101]⟩
abbrev z_given : Str := ⟨#[103, 105, 118, 101, 110]⟩
abbrev z_go : Str := ⟨#[103, 111]⟩
abbrev z_halt : Str := ⟨#[104, 97, 108, 116]⟩
abbrev z_head_word : Str := ⟨#[104, 101, 97, 100, 95, 119, 111, 114, 100]⟩
abbrev z_here : Str := ⟨#[104, 101, 114, 101]⟩
abbrev z_int : Str := ⟨#[105, 110, 116]⟩
abbrev z_isinstance : Str := ⟨#[105, 115, 105, 110, 115, 116, 97, 110, 99, 101]⟩
abbrev z_jump : Str := ⟨#[106, 117, 109, 112]⟩
abbrev z_jumpz : Str := ⟨#[106, 117, 109, 112, 122]⟩
abbrev z_k : Str := ⟨#[107]⟩
abbrev z_kind : Str := ⟨#[107, 105, 110, 100]⟩
abbrev z_label : Str := ⟨#[108, 97, 98, 101, 108]⟩
abbrev z_label_offsets : Str := ⟨#[108, 97, 98, 101, 108, 95, 111, 102, 102, 115, 101, 116, 115]⟩
abbrev z_labels : Str := ⟨#[108, 97, 98, 101, 108, 115]⟩
abbrev z_last : Str := ⟨#[108, 97, 115, 116]⟩
abbrev z_law : Str := ⟨#[108, 97, 119]⟩
abbrev z_len : Str := ⟨#[108, 101, 110]⟩
abbrev z_length : Str := ⟨#[108, 101, 110, 103, 116, 104]⟩
abbrev z_list : Str := ⟨#[108, 105, 115, 116]⟩
abbrev z_load : Str := ⟨#[108, 111, 97, 100]⟩
abbrev z_low : Str := ⟨#[108, 111, 119]⟩
abbrev z_lt : Str := ⟨#[108, 116]⟩
abbrev z_many : Str := ⟨#[109, 97, 110, 121]⟩
abbrev z_mod : Str := ⟨#[109, 111, 100]⟩
abbrev z_more : Str := ⟨#[109, 111, 114, 101]⟩
abbrev z_move : Str := ⟨#[109, 111, 118, 101]⟩
abbrev z_mul : Str := ⟨#[109, 117, 108]⟩
abbrev z_mx2eb : Str := ⟨#[109, 46, 98]⟩
abbrev z_mx2ef : Str := ⟨#[109, 46, 102]⟩
abbrev z_mx2el : Str := ⟨#[109, 46, 108]⟩
abbrev z_name : Str := ⟨#[110, 97, 109, 101]⟩
abbrev z_nx2ec : Str := ⟨#[110, 46, 99]⟩
abbrev z_nx2eg : Str := ⟨#[110, 46, 103]⟩
abbrev z_offset : Str := ⟨#[111, 102, 102, 115, 101, 116]⟩
abbrev z_offsets_of : Str := ⟨#[111, 102, 102, 115, 101, 116, 115, 95, 111, 102]⟩
abbrev z_one : Str := ⟨#[111, 110, 101]⟩
abbrev z_or : Str := ⟨#[111, 114]⟩
abbrev z_other : Str := ⟨#[111, 116, 104, 101, 114]⟩
abbrev z_out : Str := ⟨#[111, 117, 116]⟩
abbrev z_parts_of_row : Str := ⟨#[112, 97, 114, 116, 115, 95, 111, 102, 95, 114, 111, 119]⟩
abbrev z_pick : Str := ⟨#[112, 105, 99, 107]⟩
abbrev z_put : Str := ⟨#[112, 117, 116]⟩
abbrev z_range : Str := ⟨#[114, 97, 110, 103, 101]⟩
abbrev z_registers : Str := ⟨#[114, 101, 103, 105, 115, 116, 101, 114, 115]⟩
abbrev z_results : Str := ⟨#[114, 101, 115, 117, 108, 116, 115]⟩
abbrev z_row : Str := ⟨#[114, 111, 119]⟩
abbrev z_rows : Str := ⟨#[114, 111, 119, 115]⟩
abbrev z_script : Str := ⟨#[115, 99, 114, 105, 112, 116]⟩
abbrev z_second : Str := ⟨#[115, 101, 99, 111, 110, 100]⟩
abbrev z_seed : Str := ⟨#[115, 101, 101, 100]⟩
abbrev z_shl : Str := ⟨#[115, 104, 108]⟩
abbrev z_shr : Str := ⟨#[115, 104, 114]⟩
abbrev z_size_of : Str := ⟨#[115, 105, 122, 101, 95, 111, 102]⟩
abbrev z_slots : Str := ⟨#[115, 108, 111, 116, 115]⟩
abbrev z_some : Str := ⟨#[115, 111, 109, 101]⟩
abbrev z_sort : Str := ⟨#[115, 111, 114, 116]⟩
abbrev z_stop : Str := ⟨#[115, 116, 111, 112]⟩
abbrev z_store : Str := ⟨#[115, 116, 111, 114, 101]⟩
abbrev z_str : Str := ⟨#[115, 116, 114]⟩
abbrev z_sub : Str := ⟨#[115, 117, 98]⟩
abbrev z_things : Str := ⟨#[116, 104, 105, 110, 103, 115]⟩
abbrev z_third : Str := ⟨#[116, 104, 105, 114, 100]⟩
abbrev z_told : Str := ⟨#[116, 111, 108, 100]⟩
abbrev z_tuple : Str := ⟨#[116, 117, 112, 108, 101]⟩
abbrev z_turn : Str := ⟨#[116, 117, 114, 110]⟩
abbrev z_whole : Str := ⟨#[119, 104, 111, 108, 101]⟩
abbrev z_width : Str := ⟨#[119, 105, 100, 116, 104]⟩
abbrev z_word : Str := ⟨#[119, 111, 114, 100]⟩
abbrev z_words : Str := ⟨#[119, 111, 114, 100, 115]⟩
abbrev z_words_of_function : Str := ⟨#[119, 111, 114, 100, 115, 95, 111, 102, 95, 102, 117, 110, 99, 116, 105, 111, 110]⟩
abbrev z_words_of_row : Str := ⟨#[119, 111, 114, 100, 115, 95, 111, 102, 95, 114, 111, 119]⟩
abbrev z_xor : Str := ⟨#[120, 111, 114]⟩
abbrev z_zip : Str := ⟨#[122, 105, 112]⟩
def b_head_word : Fn := ⟨4, 4, [.ret (.bin .add (.bin .add (.bin .add (.bin .mul (.gix 2 (.var 0)) (.con (.int 512))) (.bin .mul (.var 1) (.con (.int 64)))) (.bin .mul (.var 2) (.con (.int 8)))) (.var 3))]⟩
def r_head_word : Row := ⟨z_head_word, top 5, 4, [z_word, z_first, z_second, z_third], [z_word, z_first, z_second, z_third], b_head_word⟩
def b_size_of : Fn := ⟨1, 1, [.ret (.ite (.cmp .eq (.ix (.var 0) (.con (.int 0))) (.con (.str z_label))) (.con (.int 0)) (.bin .add (.con (.int 1)) (.gget 5 (.ix (.var 0) (.con (.int 0))) (.con (.int 0)))))]⟩
def r_size_of : Row := ⟨z_size_of, top 6, 16, [z_row], [z_row], b_size_of⟩
def b_parts_of_row : Fn := ⟨1, 3, [.asg (.nm 1) (.ix (.var 0) (.con (.int 0))),
  .iff (.orr (.cmp .inn (.var 1) (.glo 0)) (.cmp .inn (.var 1) (.tup [(.con (.str z_lt)), (.con (.str z_eq))]))) [.ret (.tup [(.sl (.var 0) (.con (.int 1)) .nop), (.tup [])])] [],
  .iff (.cmp .eq (.var 1) (.con (.str z_word))) [.ret (.tup [(.sl (.var 0) (.con (.int 1)) (.con (.int 2))), (.sl (.var 0) (.con (.int 2)) .nop)])] [],
  .iff (.cmp .eq (.var 1) (.con (.str z_move))) [.ret (.tup [(.sl (.var 0) (.con (.int 1)) .nop), (.tup [])])] [],
  .iff (.cmp .eq (.var 1) (.con (.str z_low))) [.ret (.tup [(.tup [(.ix (.var 0) (.con (.int 1))), (.ix (.var 0) (.con (.int 3)))]), (.tup [(.ix (.var 0) (.con (.int 2)))])])] [],
  .iff (.cmp .eq (.var 1) (.con (.str z_pick))) [.ret (.tup [(.sl (.var 0) (.con (.int 1)) (.con (.int 4))), (.tup [(.ix (.var 0) (.con (.int 4)))])])] [],
  .iff (.cmp .eq (.var 1) (.con (.str z_load))) [.ret (.tup [(.tup [(.ix (.var 0) (.con (.int 1))), (.ix (.var 0) (.con (.int 3)))]), (.tup [(.tup [(.con (.str z_base)), (.ix (.var 0) (.con (.int 2)))]), (.tup [(.con (.str z_length)), (.ix (.var 0) (.con (.int 2)))])])])] [],
  .iff (.cmp .eq (.var 1) (.con (.str z_store))) [.ret (.tup [(.sl (.var 0) (.con (.int 2)) .nop), (.tup [(.tup [(.con (.str z_base)), (.ix (.var 0) (.con (.int 1)))]), (.tup [(.con (.str z_length)), (.ix (.var 0) (.con (.int 1)))]), (.tup [(.con (.str z_width)), (.ix (.var 0) (.con (.int 1)))])])])] [],
  .iff (.cmp .eq (.var 1) (.con (.str z_get))) [.ret (.tup [(.sl (.var 0) (.con (.int 1)) (.con (.int 2))), (.sl (.var 0) (.con (.int 2)) .nop)])] [],
  .iff (.cmp .eq (.var 1) (.con (.str z_put))) [.ret (.tup [(.sl (.var 0) (.con (.int 2)) .nop), (.tup [(.ix (.var 0) (.con (.int 1)))])])] [],
  .iff (.cmp .eq (.var 1) (.con (.str z_out))) [.ret (.tup [(.sl (.var 0) (.con (.int 1)) .nop), (.tup [])])] [],
  .iff (.cmp .inn (.var 1) (.tup [(.con (.str z_jump)), (.con (.str z_jumpz))])) [.ret (.tup [(.sl (.var 0) (.con (.int 1)) (.con (.int 2))), (.tup [(.tup [(.con (.str z_label)), (.ix (.var 0) (.con (.int 2)))])])])] [],
  .iff (.cmp .inn (.var 1) (.tup [(.con (.str z_call)), (.con (.str z_go)), (.con (.str z_halt))])) [.asg (.nm 2) (.ix (.dis [(.con (.str z_call)), (.con (.str z_function)), (.con (.str z_go)), (.con (.str z_label)), (.con (.str z_halt)), (.con (.str z_halt))]) (.var 1)), .ret (.tup [(.tup []), (.tup [(.tup [(.var 2), (.ix (.var 0) (.con (.int 1)))])])])] [],
  .ret (.tup [(.tup []), (.sl (.var 0) (.con (.int 1)) .nop)])]⟩
def r_parts_of_row : Row := ⟨z_parts_of_row, top 7, 5, [z_row, z_word, z_kind], [z_row], b_parts_of_row⟩
def b_words_of_row : Fn := ⟨1, 6, [.iff (.cmp .eq (.ix (.var 0) (.con (.int 0))) (.con (.str z_label))) [.ret (.tup [])] [],
  .asg (.tp [(.nm 1), (.nm 2)]) (.call 5 [(.var 0)]),
  .asg (.tp [(.nm 3), (.nm 4), (.nm 5)]) (.sl (.bin .add (.blt .tuple [(.var 1)]) (.tup [(.con (.int 0)), (.con (.int 0)), (.con (.int 0))])) .nop (.con (.int 3))),
  .ret (.tup [(.call 4 [(.ix (.var 0) (.con (.int 0))), (.var 3), (.var 4), (.var 5)]), (.star (.var 2))])]⟩
def r_words_of_row : Row := ⟨z_words_of_row, top 8, 6, [z_row, z_registers, z_more, z_first, z_second, z_third], [z_row], b_words_of_row⟩
def b_words_of_function : Fn := ⟨1, 3, [.asg (.nm 1) (.lst [(.call 4 [(.con (.str z_enter)), (.con (.int 0)), (.con (.int 0)), (.con (.int 0))]), (.ix (.var 0) (.con (.int 3)))]),
  .forr (.nm 2) (.ix (.var 0) (.con (.int 4))) [.exp (.mth .extend (.var 1) [(.call 6 [(.var 2)])])],
  .ret (.blt .tuple [(.var 1)])]⟩
def r_words_of_function : Row := ⟨z_words_of_function, top 9, 17, [z_function, z_found, z_row], [z_function], b_words_of_function⟩
def b_offsets_of : Fn := ⟨1, 4, [.asg (.tp [(.nm 2), (.nm 3)]) (.tup [(.lst []), (.con (.int 2))]),
  .forr (.nm 1) (.ix (.var 0) (.con (.int 4))) [.exp (.mth .append (.var 2) [(.var 3)]), .aug 3 .add (.call 16 [(.var 1)])],
  .ret (.blt .tuple [(.var 2)])]⟩
def r_offsets_of : Row := ⟨z_offsets_of, top 10, 18, [z_function, z_row, z_found, z_here], [z_function], b_offsets_of⟩
def b_label_offsets : Fn := ⟨1, 3, [.ret (.dcomp [1, 2] (.tp [(.nm 1), (.nm 2)]) (.zip (.ix (.var 0) (.con (.int 4))) (.call 18 [(.var 0)])) [(.cmp .eq (.ix (.var 1) (.con (.int 0))) (.con (.str z_label)))] (.ix (.var 1) (.con (.int 1))) (.var 2))]⟩
def r_label_offsets : Row := ⟨z_label_offsets, top 11, 19, [z_function, z_row, z_offset], [z_function], b_label_offsets⟩
def r__law_digits : Row := ⟨z__law_digits, top 13, 0, [z_script, z_first, z_last, z_digits, z_k, z_cell, z_turn, z_seed], [z_script, z_first, z_last], b__law_digits⟩
def r__law_draw : Row := ⟨z__law_draw, top 14, 1, [z_box, z_many, z_at], [z_box, z_many], b__law_draw⟩
def r__law_pick : Row := ⟨z__law_pick, top 15, 2, [z_box, z_things], [z_box, z_things], b__law_pick⟩
def r__law_like : Row := ⟨z__law_like, top 16, 3, [z_told, z_due, z_k], [z_told, z_due], b__law_like⟩
def b__law_row : Fn := ⟨3, 6, [.asg (.tp [(.nm 3), (.nm 4)]) (.tup [(.comp [5] (.nm 5) (.rng [(.con (.int 4))]) [] (.call 1 [(.var 0), (.con (.int 8))])), (.call 1 [(.var 0), (.con (.int 12))])]),
  .iff (.cmp .lt (.var 4) (.con (.int 3))) [.ret (.tup [(.ix (.lst [(.con (.str z_add)), (.con (.str z_sub)), (.con (.str z_mul)), (.con (.str z_and)), (.con (.str z_or)), (.con (.str z_xor)), (.con (.str z_shl)), (.con (.str z_shr)), (.con (.str z_div)), (.con (.str z_mod))]) (.call 1 [(.var 0), (.con (.int 10))])), (.ix (.var 3) (.con (.int 0))), (.ix (.var 3) (.con (.int 1))), (.ix (.var 3) (.con (.int 2)))])] [],
  .iff (.cmp .eq (.var 4) (.con (.int 3))) [.ret (.tup [(.ix (.lst [(.con (.str z_lt)), (.con (.str z_eq))]) (.call 1 [(.var 0), (.con (.int 2))])), (.ix (.var 3) (.con (.int 0))), (.ix (.var 3) (.con (.int 1))), (.ix (.var 3) (.con (.int 2)))])] [],
  .iff (.cmp .eq (.var 4) (.con (.int 4))) [.ret (.tup [(.con (.str z_low)), (.ix (.var 3) (.con (.int 0))), (.bin .add (.con (.int 1)) (.call 1 [(.var 0), (.con (.int 16))])), (.ix (.var 3) (.con (.int 1)))])] [],
  .iff (.cmp .eq (.var 4) (.con (.int 5))) [.ret (.tup [(.con (.str z_pick)), (.ix (.var 3) (.con (.int 0))), (.ix (.var 3) (.con (.int 1))), (.ix (.var 3) (.con (.int 2))), (.ix (.var 3) (.con (.int 3)))])] [],
  .iff (.cmp .eq (.var 4) (.con (.int 6))) [.ret (.ite (.cmp .eq (.call 1 [(.var 0), (.con (.int 2))]) (.con (.int 0))) (.tup [(.con (.str z_load)), (.ix (.var 3) (.con (.int 0))), (.con (.str z_mx2eb)), (.ix (.var 3) (.con (.int 1)))]) (.tup [(.con (.str z_store)), (.con (.str z_mx2eb)), (.ix (.var 3) (.con (.int 0))), (.ix (.var 3) (.con (.int 1)))]))] [],
  .iff (.andd (.cmp .eq (.var 4) (.con (.int 7))) (.cmp .gt (.var 2) (.con (.int 0)))) [.ret (.ite (.cmp .eq (.call 1 [(.var 0), (.con (.int 2))]) (.con (.int 0))) (.tup [(.con (.str z_get)), (.ix (.var 3) (.con (.int 0))), (.call 1 [(.var 0), (.var 2)])]) (.tup [(.con (.str z_put)), (.call 1 [(.var 0), (.var 2)]), (.ix (.var 3) (.con (.int 0)))]))] [],
  .iff (.cmp .eq (.var 4) (.con (.int 8))) [.ret (.tup [(.con (.str z_out)), (.ix (.var 3) (.con (.int 0)))])] [],
  .iff (.cmp .eq (.var 4) (.con (.int 9))) [.ret (.tup [(.con (.str z_move)), (.ix (.var 3) (.con (.int 0))), (.ix (.var 3) (.con (.int 1)))])] [],
  .iff (.andd (.cmp .eq (.var 4) (.con (.int 10))) (.cmp .gt (.var 1) (.con (.int 0)))) [.ret (.tup [(.ix (.lst [(.con (.str z_jump)), (.con (.str z_jumpz))]) (.call 1 [(.var 0), (.con (.int 2))])), (.ix (.var 3) (.con (.int 0))), (.call 1 [(.var 0), (.var 1)])])] [],
  .ret (.tup [(.con (.str z_word)), (.ix (.var 3) (.con (.int 0))), (.ix (.lst [(.con (.int 0)), (.con (.int 1)), (.con (.int 2)), (.con (.int 3)), (.con (.int 7)), (.con (.int 65535))]) (.call 1 [(.var 0), (.con (.int 6))]))])]⟩
def r__law_row : Row := ⟨z__law_row, top 17, 20, [z_box, z_labels, z_slots, z_some, z_sort, z_k], [z_box, z_labels, z_slots], b__law_row⟩
def b__law_asm_function : Fn := ⟨5, 13, [.asg (.tp [(.nm 7), (.nm 8)]) (.tup [(.call 1 [(.var 0), (.con (.int 3))]), (.call 1 [(.var 0), (.con (.int 3))])]),
  .asg (.nm 5) (.bin .add (.comp [9] (.nm 9) (.rng [(.var 2), (.con (.int 8))]) [] (.tup [(.con (.str z_word)), (.var 9), (.call 1 [(.var 0), (.con (.int 5))])])) (.comp [9] (.nm 9) (.rng [(.var 8)]) [] (.tup [(.con (.str z_put)), (.var 9), (.call 1 [(.var 0), (.con (.int 8))])]))),
  .forr (.nm 6) (.rng [(.bin .add (.var 7) (.con (.int 1)))]) [.forr (.nm 9) (.rng [(.call 1 [(.var 0), (.con (.int 5))])]) [.exp (.mth .append (.var 5) [(.call 20 [(.var 0), (.var 7), (.var 8)])])], .iff (.andd (.cmp .ne (.var 4) (.lst [])) (.cmp .eq (.call 1 [(.var 0), (.con (.int 3))]) (.con (.int 0)))) [.asg (.tp [(.nm 10), (.nm 11), (.nm 12)]) (.call 2 [(.var 0), (.var 4)]), .asg (.nm 5) (.bin .add (.bin .add (.var 5) (.lst [(.tup [(.con (.str z_call)), (.var 10)])])) (.comp [9] (.nm 9) (.rng [(.var 12), (.con (.int 8))]) [] (.tup [(.con (.str z_word)), (.var 9), (.call 1 [(.var 0), (.con (.int 5))])])))] [], .iff (.cmp .lt (.var 6) (.var 7)) [.asg (.nm 5) (.bin .add (.bin .add (.var 5) (.ite (.cmp .eq (.call 1 [(.var 0), (.con (.int 4))]) (.con (.int 0))) (.lst [(.tup [(.con (.str z_go)), (.call 1 [(.var 0), (.var 7)])])]) (.lst []))) (.lst [(.tup [(.con (.str z_label)), (.var 6)])]))] []],
  .exp (.mth .append (.var 5) [(.ix (.lst [(.tup [(.con (.str z_give))]), (.tup [(.con (.str z_give))]), (.tup [(.con (.str z_halt)), (.con (.str z_stop))])]) (.call 1 [(.var 0), (.con (.int 3))]))]),
  .ret (.tup [(.var 1), (.var 2), (.var 3), (.var 8), (.blt .tuple [(.var 5)])])]⟩
def r__law_asm_function : Row := ⟨z__law_asm_function, top 18, 21, [z_box, z_name, z_given, z_told, z_calls, z_rows, z_label, z_labels, z_slots, z_k, z_callee, z_words, z_results], [z_box, z_name, z_given, z_told, z_calls], b__law_asm_function⟩
def b__law_asm : Fn := ⟨1, 3, [.asg (.nm 1) (.call 21 [(.var 0), (.con (.str z_nx2eg)), (.con (.int 1)), (.con (.int 2)), (.lst [])]),
  .asg (.nm 2) (.call 21 [(.var 0), (.con (.str z_mx2ef)), (.bin .add (.con (.int 1)) (.call 1 [(.var 0), (.con (.int 3))])), (.bin .add (.con (.int 1)) (.call 1 [(.var 0), (.con (.int 3))])), (.lst [(.tup [(.con (.str z_nx2eg)), (.con (.int 1)), (.con (.int 2))])])]),
  .ret (.tup [(.con (.str z_asm)), (.tup [(.tup [(.con (.str z_mx2eb)), (.con (.int 8)), (.con (.int 4))]), (.tup [(.con (.str z_nx2ec)), (.con (.int 16)), (.con (.int 2))])]), (.tup [(.var 1), (.var 2)])])]⟩
def r__law_asm : Row := ⟨z__law_asm, top 19, 22, [z_box, z_other, z_one], [z_box], b__law_asm⟩
def b__law_number : Fn := ⟨1, 2, [.asg (.nm 1) (.lst [(.con (.str z_add)), (.con (.str z_sub)), (.con (.str z_mul)), (.con (.str z_and)), (.con (.str z_or)), (.con (.str z_xor)), (.con (.str z_shl)), (.con (.str z_shr)), (.con (.str z_div)), (.con (.str z_mod)), (.con (.str z_word)), (.con (.str z_move)), (.con (.str z_lt)), (.con (.str z_eq)), (.con (.str z_low)), (.con (.str z_pick)), (.con (.str z_load)), (.con (.str z_store))]),
  .ret (.mth .index (.bin .add (.var 1) (.lst [(.con (.str z_get)), (.con (.str z_put)), (.con (.str z_out)), (.con (.str z_call)), (.con (.str z_go)), (.con (.str z_jump)), (.con (.str z_jumpz)), (.con (.str z_give)), (.con (.str z_halt)), (.con (.str z_enter))])) [(.var 0)])]⟩
def r__law_number : Row := ⟨z__law_number, top 20, 7, [z_word, z_words], [z_word], b__law_number⟩
def b__law_size : Fn := ⟨1, 2, [.asg (.nm 1) (.dis [(.con (.str z_word)), (.con (.int 1)), (.con (.str z_low)), (.con (.int 1)), (.con (.str z_pick)), (.con (.int 1)), (.con (.str z_load)), (.con (.int 2)), (.con (.str z_store)), (.con (.int 3)), (.con (.str z_get)), (.con (.int 1)), (.con (.str z_put)), (.con (.int 1)), (.con (.str z_call)), (.con (.int 1)), (.con (.str z_go)), (.con (.int 1)), (.con (.str z_jump)), (.con (.int 1)), (.con (.str z_jumpz)), (.con (.int 1)), (.con (.str z_halt)), (.con (.int 1))]),
  .ret (.ite (.cmp .eq (.ix (.var 0) (.con (.int 0))) (.con (.str z_label))) (.con (.int 0)) (.bin .add (.con (.int 1)) (.mth .get (.var 1) [(.ix (.var 0) (.con (.int 0))), (.con (.int 0))])))]⟩
def r__law_size : Row := ⟨z__law_size, top 21, 23, [z_row, z_more], [z_row], b__law_size⟩
def b_law : Fn := ⟨1, 14, [.asg (.nm 1) (.lst [(.call 0 [(.var 0), (.con (.int 0)), (.con (.int 63))]), (.con (.int 0))]),
  .forr (.nm 2) (.rng [(.con (.int 3))]) [.asg (.nm 3) (.call 22 [(.var 1)]), .asg (.nm 4) (.bin .add (.con (.int 1)) (.call 1 [(.var 1), (.con (.int 4))])), .asg (.nm 5) (.tup [(.con (.str z_mx2el)), (.con (.int 0)), (.con (.int 0)), (.call 2 [(.var 1), (.lst [(.con (.int 0)), (.con (.int 1)), (.con (.int 200))])]), (.bin .add (.blt .tuple [(.comp [13] (.nm 13) (.rng [(.var 4)]) [] (.tup [(.con (.str z_label)), (.blt .int [(.var 13)])]))]) (.tup [(.tup [(.con (.str z_go)), (.con (.int 0))])]))]), .forr (.nm 6) (.bin .add (.ix (.var 3) (.con (.int 2))) (.tup [(.var 5)])) [.asg (.tp [(.nm 11), (.nm 12)]) (.tup [(.lst []), (.lst [(.bin .mul (.call 7 [(.con (.str z_enter))]) (.con (.int 512))), (.ix (.var 6) (.con (.int 3)))])]), .forr (.nm 7) (.ix (.var 6) (.con (.int 4))) [.exp (.mth .append (.var 11) [(.blt .len [(.var 12)])]), .asg (.nm 12) (.bin .add (.var 12) (.blt .list [(.call 6 [(.var 7)])])), .iff (.cmp .ne (.blt .len [(.var 12)]) (.bin .add (.ix (.var 11) (.neg (.con (.int 1)))) (.call 23 [(.var 7)]))) [.ret (.con (.bl false))] []], .iff (.orr (.nott (.call 3 [(.call 17 [(.var 6)]), (.blt .tuple [(.var 12)])])) (.nott (.call 3 [(.call 18 [(.var 6)]), (.blt .tuple [(.var 11)])]))) [.ret (.con (.bl false))] [], .asg (.nm 8) (.call 19 [(.var 6)]), .asg (.nm 9) (.blt .dict [(.comp [13] (.nm 13) (.rng [(.blt .len [(.ix (.var 6) (.con (.int 4)))])]) [(.cmp .eq (.ix (.ix (.ix (.var 6) (.con (.int 4))) (.var 13)) (.con (.int 0))) (.con (.str z_label)))] (.tup [(.ix (.ix (.ix (.var 6) (.con (.int 4))) (.var 13)) (.con (.int 1))), (.ix (.var 11) (.var 13))]))]), .iff (.orr (.nott (.blt (.isi .dict) [(.var 8)])) (.cmp .ne (.blt .len [(.var 8)]) (.blt .len [(.var 9)]))) [.ret (.con (.bl false))] [], .ford .keys (.nm 10) 9 [.iff (.nott (.call 3 [(.mth .get (.var 8) [(.var 10)]), (.ix (.var 9) (.var 10))])) [.ret (.con (.bl false))] []]]],
  .ret (.con (.bl true))]⟩
def r_law : Row := ⟨z_law, top 22, 24, [z_script, z_box, z_turn, z_asm, z_many, z_bare, z_function, z_row, z_labels, z_due, z_label, z_ahead, z_whole, z_k], [z_script], b_law⟩
def kv_MORE : List (Str × D) := [(z_word, (.int 1)), (z_low, (.int 1)), (z_pick, (.int 1)), (z_load, (.int 2)), (z_store, (.int 3)), (z_get, (.int 1)), (z_put, (.int 1)), (z_call, (.int 1)), (z_go, (.int 1)), (z_jump, (.int 1)), (z_jumpz, (.int 1)), (z_halt, (.int 1)), (z_enter, (.int 1))]
def rows : List Row := [r_head_word, r_size_of, r_parts_of_row, r_words_of_row, r_words_of_function, r_offsets_of, r_label_offsets, r__law_digits, r__law_draw, r__law_pick, r__law_like, r__law_row, r__law_asm_function, r__law_asm, r__law_number, r__law_size, r_law]
def cons : List (Str × Nat × D) := [(z_OPS, 0, (.tup [(.str z_add), (.str z_sub), (.str z_mul), (.str z_and), (.str z_or), (.str z_xor), (.str z_shl), (.str z_shr), (.str z_div), (.str z_mod)])),
  (z_PLAIN, 1, (.tup [(.str z_word), (.str z_move), (.str z_lt), (.str z_eq), (.str z_low), (.str z_pick), (.str z_load), (.str z_store), (.str z_get), (.str z_put), (.str z_out), (.str z_call), (.str z_go), (.str z_jump), (.str z_jumpz), (.str z_give), (.str z_halt), (.str z_enter)])),
  (z_WORDS, 2, (.tup [(.str z_add), (.str z_sub), (.str z_mul), (.str z_and), (.str z_or), (.str z_xor), (.str z_shl), (.str z_shr), (.str z_div), (.str z_mod), (.str z_word), (.str z_move), (.str z_lt), (.str z_eq), (.str z_low), (.str z_pick), (.str z_load), (.str z_store), (.str z_get), (.str z_put), (.str z_out), (.str z_call), (.str z_go), (.str z_jump), (.str z_jumpz), (.str z_give), (.str z_halt), (.str z_enter)]))]
def dics : Dics := [(z_MORE, 5, kv_MORE)]
def frs : List Str := [z_bool, z_dict, z_int, z_isinstance, z_len, z_list, z_range, z_str, z_tuple, z_zip]
abbrev PG : Pg := pgOf rows cons dics
abbrev GBs : Str → GB := gbOf rows cons dics frs
theorem gf_head_word : PG.fn 4 = some b_head_word := rfl
theorem gf_size_of : PG.fn 16 = some b_size_of := rfl
theorem gf_parts_of_row : PG.fn 5 = some b_parts_of_row := rfl
theorem gf_words_of_row : PG.fn 6 = some b_words_of_row := rfl
theorem gf_words_of_function : PG.fn 17 = some b_words_of_function := rfl
theorem gf_offsets_of : PG.fn 18 = some b_offsets_of := rfl
theorem gf_label_offsets : PG.fn 19 = some b_label_offsets := rfl
theorem gf__law_digits : PG.fn 0 = some b__law_digits := rfl
theorem gf__law_draw : PG.fn 1 = some b__law_draw := rfl
theorem gf__law_pick : PG.fn 2 = some b__law_pick := rfl
theorem gf__law_like : PG.fn 3 = some b__law_like := rfl
theorem gf__law_row : PG.fn 20 = some b__law_row := rfl
theorem gf__law_asm_function : PG.fn 21 = some b__law_asm_function := rfl
theorem gf__law_asm : PG.fn 22 = some b__law_asm := rfl
theorem gf__law_number : PG.fn 7 = some b__law_number := rfl
theorem gf__law_size : PG.fn 23 = some b__law_size := rfl
theorem gf_law : PG.fn 24 = some b_law := rfl
theorem gc_OPS : PG.con 0 = some (.tup [(.str z_add), (.str z_sub), (.str z_mul), (.str z_and), (.str z_or), (.str z_xor), (.str z_shl), (.str z_shr), (.str z_div), (.str z_mod)]) := rfl
theorem gc_PLAIN : PG.con 1 = some (.tup [(.str z_word), (.str z_move), (.str z_lt), (.str z_eq), (.str z_low), (.str z_pick), (.str z_load), (.str z_store), (.str z_get), (.str z_put), (.str z_out), (.str z_call), (.str z_go), (.str z_jump), (.str z_jumpz), (.str z_give), (.str z_halt), (.str z_enter)]) := rfl
theorem gc_WORDS : PG.con 2 = some (.tup [(.str z_add), (.str z_sub), (.str z_mul), (.str z_and), (.str z_or), (.str z_xor), (.str z_shl), (.str z_shr), (.str z_div), (.str z_mod), (.str z_word), (.str z_move), (.str z_lt), (.str z_eq), (.str z_low), (.str z_pick), (.str z_load), (.str z_store), (.str z_get), (.str z_put), (.str z_out), (.str z_call), (.str z_go), (.str z_jump), (.str z_jumpz), (.str z_give), (.str z_halt), (.str z_enter)]) := rfl
theorem gd_MORE {α : Type} {f : List (L2.Key × D) → Option α} : gdO PG.con 5 f = f (dicKs kv_MORE) := gdO_at rfl (pairs_dicD _)
theorem ok_head_word : RowOk PG GBs r_head_word := ⟨rfl, rfl, rfl, ⟨rfl, rfl, rfl, by decide +kernel, rfl, by decide +kernel, by decide +kernel⟩, by decide +kernel, fun _ _ _ _ _ _ us hl => match us, hl with | [_, _, _, _], _ => rfl⟩
theorem ok_size_of : RowOk PG GBs r_size_of := ⟨rfl, rfl, rfl, ⟨rfl, rfl, rfl, by decide +kernel, rfl, by decide +kernel, by decide +kernel⟩, by decide +kernel, fun _ _ _ _ _ _ us hl => match us, hl with | [_], _ => rfl⟩
theorem ok_parts_of_row : RowOk PG GBs r_parts_of_row := ⟨rfl, rfl, rfl, ⟨rfl, rfl, rfl, by decide +kernel, rfl, by decide +kernel, by decide +kernel⟩, by decide +kernel, fun _ _ _ _ _ _ us hl => match us, hl with | [_], _ => rfl⟩
theorem ok_words_of_row : RowOk PG GBs r_words_of_row := ⟨rfl, rfl, rfl, ⟨rfl, rfl, rfl, by decide +kernel, rfl, by decide +kernel, by decide +kernel⟩, by decide +kernel, fun _ _ _ _ _ _ us hl => match us, hl with | [_], _ => rfl⟩
theorem ok_words_of_function : RowOk PG GBs r_words_of_function := ⟨rfl, rfl, rfl, ⟨rfl, rfl, rfl, by decide +kernel, rfl, by decide +kernel, by decide +kernel⟩, by decide +kernel, fun _ _ _ _ _ _ us hl => match us, hl with | [_], _ => rfl⟩
theorem ok_offsets_of : RowOk PG GBs r_offsets_of := ⟨rfl, rfl, rfl, ⟨rfl, rfl, rfl, by decide +kernel, rfl, by decide +kernel, by decide +kernel⟩, by decide +kernel, fun _ _ _ _ _ _ us hl => match us, hl with | [_], _ => rfl⟩
theorem ok_label_offsets : RowOk PG GBs r_label_offsets := ⟨rfl, rfl, rfl, ⟨rfl, rfl, rfl, by decide +kernel, rfl, by decide +kernel, by decide +kernel⟩, by decide +kernel, fun _ _ _ _ _ _ us hl => match us, hl with | [_], _ => rfl⟩
theorem ok__law_digits : RowOk PG GBs r__law_digits := ⟨rfl, rfl, rfl, ⟨rfl, rfl, rfl, by decide +kernel, rfl, by decide +kernel, by decide +kernel⟩, by decide +kernel, fun _ _ _ _ _ _ us hl => match us, hl with | [_, _, _], _ => rfl⟩
theorem ok__law_draw : RowOk PG GBs r__law_draw := ⟨rfl, rfl, rfl, ⟨rfl, rfl, rfl, by decide +kernel, rfl, by decide +kernel, by decide +kernel⟩, by decide +kernel, fun _ _ _ _ _ _ us hl => match us, hl with | [_, _], _ => rfl⟩
theorem ok__law_pick : RowOk PG GBs r__law_pick := ⟨rfl, rfl, rfl, ⟨rfl, rfl, rfl, by decide +kernel, rfl, by decide +kernel, by decide +kernel⟩, by decide +kernel, fun _ _ _ _ _ _ us hl => match us, hl with | [_, _], _ => rfl⟩
theorem ok__law_like : RowOk PG GBs r__law_like := ⟨rfl, rfl, rfl, ⟨rfl, rfl, rfl, by decide +kernel, rfl, by decide +kernel, by decide +kernel⟩, by decide +kernel, fun _ _ _ _ _ _ us hl => match us, hl with | [_, _], _ => rfl⟩
theorem ok__law_row : RowOk PG GBs r__law_row := ⟨rfl, rfl, rfl, ⟨rfl, rfl, rfl, by decide +kernel, rfl, by decide +kernel, by decide +kernel⟩, by decide +kernel, fun _ _ _ _ _ _ us hl => match us, hl with | [_, _, _], _ => rfl⟩
theorem ok__law_asm_function : RowOk PG GBs r__law_asm_function := ⟨rfl, rfl, rfl, ⟨rfl, rfl, rfl, by decide +kernel, rfl, by decide +kernel, by decide +kernel⟩, by decide +kernel, fun _ _ _ _ _ _ us hl => match us, hl with | [_, _, _, _, _], _ => rfl⟩
theorem ok__law_asm : RowOk PG GBs r__law_asm := ⟨rfl, rfl, rfl, ⟨rfl, rfl, rfl, by decide +kernel, rfl, by decide +kernel, by decide +kernel⟩, by decide +kernel, fun _ _ _ _ _ _ us hl => match us, hl with | [_], _ => rfl⟩
theorem ok__law_number : RowOk PG GBs r__law_number := ⟨rfl, rfl, rfl, ⟨rfl, rfl, rfl, by decide +kernel, rfl, by decide +kernel, by decide +kernel⟩, by decide +kernel, fun _ _ _ _ _ _ us hl => match us, hl with | [_], _ => rfl⟩
theorem ok__law_size : RowOk PG GBs r__law_size := ⟨rfl, rfl, rfl, ⟨rfl, rfl, rfl, by decide +kernel, rfl, by decide +kernel, by decide +kernel⟩, by decide +kernel, fun _ _ _ _ _ _ us hl => match us, hl with | [_], _ => rfl⟩
theorem ok_law : RowOk PG GBs r_law := ⟨rfl, rfl, rfl, ⟨rfl, rfl, rfl, by decide +kernel, rfl, by decide +kernel, by decide +kernel⟩, by decide +kernel, fun _ _ _ _ _ _ us hl => match us, hl with | [_], _ => rfl⟩
theorem oks : ∀ r ∈ rows, RowOk PG GBs r := by
  intro r h
  simp only [rows, List.mem_cons, List.not_mem_nil, or_false] at h
  rcases h with rfl | rfl | rfl | rfl | rfl | rfl | rfl | rfl | rfl | rfl | rfl | rfl | rfl | rfl | rfl | rfl | rfl
  · exact ok_head_word
  · exact ok_size_of
  · exact ok_parts_of_row
  · exact ok_words_of_row
  · exact ok_words_of_function
  · exact ok_offsets_of
  · exact ok_label_offsets
  · exact ok__law_digits
  · exact ok__law_draw
  · exact ok__law_pick
  · exact ok__law_like
  · exact ok__law_row
  · exact ok__law_asm_function
  · exact ok__law_asm
  · exact ok__law_number
  · exact ok__law_size
  · exact ok_law
end Lk02

namespace J
theorem k_add {k n : Nat} (h : n ≤ k) : ∃ j, k = j + n := ⟨k - n, by omega⟩
def outR (r : R D) : Option D := match r with
  | .ok d _ => some d
  | _ => none
theorem outR_ok {r : R D} {d : D} (h : outR r = some d) : ∃ M', r = .ok d M' := by
  cases r with
  | ok a M => cases h; exact ⟨M, rfl⟩
  | err c as M => cases h
  | bad => cases h
end J
namespace Lk02
open PySem J
open L2 (Key atI)
/-- a row, its words, whether it is a label -/
structure RI (row : D) (ws : List D) (lab : Option Int) : Prop where
  pure : row.pure = true
  lks : D.lks ws = true
  dep : D.deps ws ≤ 2
  len : ws.length ≤ 6
  w : ∀ k, 5 ≤ k → ∃ M', runF PG k 6 [row] [] = .ok (.tup ws) M'
  s : ∀ k, 5 ≤ k → ∃ M', runF PG k 16 [row] [] = .ok (.int (ws.length : Nat)) M'
  l : ∀ k, 5 ≤ k → ∃ M', runF PG k 23 [row] [] = .ok (.int (ws.length : Nat)) M'
  lab : (lab = none ∧ ∃ z rest, row = .tup (.str z :: rest) ∧ (decide (z = z_label)) = false) ∨ ∃ i, lab = some i ∧ row = .tup [.str z_label, .int i]
theorem dec_ne {z : Str} (h : (z == z_label) = false) : decide (z = z_label) = false := by
  simpa using h
section
variable {a b c d : Int}
theorem ri_add : RI (.tup [.str z_add, .int a, .int b, .int c]) [.int (0 * 512 + a * 64 + b * 8 + c)] none := by
  refine ⟨rfl, by simp [D.lks, D.lk, le_big, PySem.Str.length], by simp [D.deps, D.dep], by simp, fun k hk => ?_, fun k hk => ?_, fun k hk => ?_, .inl ⟨rfl, _, _, rfl, by decide +kernel⟩⟩
  · obtain ⟨k, rfl⟩ := k_add hk
    exact outR_ok (by kernel_rfl)
  · obtain ⟨k, rfl⟩ := k_add hk
    exact outR_ok (by kernel_rfl)
  · obtain ⟨k, rfl⟩ := k_add hk
    exact outR_ok (by kernel_rfl)
theorem ri_sub : RI (.tup [.str z_sub, .int a, .int b, .int c]) [.int (1 * 512 + a * 64 + b * 8 + c)] none := by
  refine ⟨rfl, by simp [D.lks, D.lk, le_big, PySem.Str.length], by simp [D.deps, D.dep], by simp, fun k hk => ?_, fun k hk => ?_, fun k hk => ?_, .inl ⟨rfl, _, _, rfl, by decide +kernel⟩⟩
  · obtain ⟨k, rfl⟩ := k_add hk
    exact outR_ok (by kernel_rfl)
  · obtain ⟨k, rfl⟩ := k_add hk
    exact outR_ok (by kernel_rfl)
  · obtain ⟨k, rfl⟩ := k_add hk
    exact outR_ok (by kernel_rfl)
theorem ri_mul : RI (.tup [.str z_mul, .int a, .int b, .int c]) [.int (2 * 512 + a * 64 + b * 8 + c)] none := by
  refine ⟨rfl, by simp [D.lks, D.lk, le_big, PySem.Str.length], by simp [D.deps, D.dep], by simp, fun k hk => ?_, fun k hk => ?_, fun k hk => ?_, .inl ⟨rfl, _, _, rfl, by decide +kernel⟩⟩
  · obtain ⟨k, rfl⟩ := k_add hk
    exact outR_ok (by kernel_rfl)
  · obtain ⟨k, rfl⟩ := k_add hk
    exact outR_ok (by kernel_rfl)
  · obtain ⟨k, rfl⟩ := k_add hk
    exact outR_ok (by kernel_rfl)
theorem ri_and : RI (.tup [.str z_and, .int a, .int b, .int c]) [.int (3 * 512 + a * 64 + b * 8 + c)] none := by
  refine ⟨rfl, by simp [D.lks, D.lk, le_big, PySem.Str.length], by simp [D.deps, D.dep], by simp, fun k hk => ?_, fun k hk => ?_, fun k hk => ?_, .inl ⟨rfl, _, _, rfl, by decide +kernel⟩⟩
  · obtain ⟨k, rfl⟩ := k_add hk
    exact outR_ok (by kernel_rfl)
  · obtain ⟨k, rfl⟩ := k_add hk
    exact outR_ok (by kernel_rfl)
  · obtain ⟨k, rfl⟩ := k_add hk
    exact outR_ok (by kernel_rfl)
theorem ri_or : RI (.tup [.str z_or, .int a, .int b, .int c]) [.int (4 * 512 + a * 64 + b * 8 + c)] none := by
  refine ⟨rfl, by simp [D.lks, D.lk, le_big, PySem.Str.length], by simp [D.deps, D.dep], by simp, fun k hk => ?_, fun k hk => ?_, fun k hk => ?_, .inl ⟨rfl, _, _, rfl, by decide +kernel⟩⟩
  · obtain ⟨k, rfl⟩ := k_add hk
    exact outR_ok (by kernel_rfl)
  · obtain ⟨k, rfl⟩ := k_add hk
    exact outR_ok (by kernel_rfl)
  · obtain ⟨k, rfl⟩ := k_add hk
    exact outR_ok (by kernel_rfl)
theorem ri_xor : RI (.tup [.str z_xor, .int a, .int b, .int c]) [.int (5 * 512 + a * 64 + b * 8 + c)] none := by
  refine ⟨rfl, by simp [D.lks, D.lk, le_big, PySem.Str.length], by simp [D.deps, D.dep], by simp, fun k hk => ?_, fun k hk => ?_, fun k hk => ?_, .inl ⟨rfl, _, _, rfl, by decide +kernel⟩⟩
  · obtain ⟨k, rfl⟩ := k_add hk
    exact outR_ok (by kernel_rfl)
  · obtain ⟨k, rfl⟩ := k_add hk
    exact outR_ok (by kernel_rfl)
  · obtain ⟨k, rfl⟩ := k_add hk
    exact outR_ok (by kernel_rfl)
theorem ri_shl : RI (.tup [.str z_shl, .int a, .int b, .int c]) [.int (6 * 512 + a * 64 + b * 8 + c)] none := by
  refine ⟨rfl, by simp [D.lks, D.lk, le_big, PySem.Str.length], by simp [D.deps, D.dep], by simp, fun k hk => ?_, fun k hk => ?_, fun k hk => ?_, .inl ⟨rfl, _, _, rfl, by decide +kernel⟩⟩
  · obtain ⟨k, rfl⟩ := k_add hk
    exact outR_ok (by kernel_rfl)
  · obtain ⟨k, rfl⟩ := k_add hk
    exact outR_ok (by kernel_rfl)
  · obtain ⟨k, rfl⟩ := k_add hk
    exact outR_ok (by kernel_rfl)
theorem ri_shr : RI (.tup [.str z_shr, .int a, .int b, .int c]) [.int (7 * 512 + a * 64 + b * 8 + c)] none := by
  refine ⟨rfl, by simp [D.lks, D.lk, le_big, PySem.Str.length], by simp [D.deps, D.dep], by simp, fun k hk => ?_, fun k hk => ?_, fun k hk => ?_, .inl ⟨rfl, _, _, rfl, by decide +kernel⟩⟩
  · obtain ⟨k, rfl⟩ := k_add hk
    exact outR_ok (by kernel_rfl)
  · obtain ⟨k, rfl⟩ := k_add hk
    exact outR_ok (by kernel_rfl)
  · obtain ⟨k, rfl⟩ := k_add hk
    exact outR_ok (by kernel_rfl)
theorem ri_div : RI (.tup [.str z_div, .int a, .int b, .int c]) [.int (8 * 512 + a * 64 + b * 8 + c)] none := by
  refine ⟨rfl, by simp [D.lks, D.lk, le_big, PySem.Str.length], by simp [D.deps, D.dep], by simp, fun k hk => ?_, fun k hk => ?_, fun k hk => ?_, .inl ⟨rfl, _, _, rfl, by decide +kernel⟩⟩
  · obtain ⟨k, rfl⟩ := k_add hk
    exact outR_ok (by kernel_rfl)
  · obtain ⟨k, rfl⟩ := k_add hk
    exact outR_ok (by kernel_rfl)
  · obtain ⟨k, rfl⟩ := k_add hk
    exact outR_ok (by kernel_rfl)
theorem ri_mod : RI (.tup [.str z_mod, .int a, .int b, .int c]) [.int (9 * 512 + a * 64 + b * 8 + c)] none := by
  refine ⟨rfl, by simp [D.lks, D.lk, le_big, PySem.Str.length], by simp [D.deps, D.dep], by simp, fun k hk => ?_, fun k hk => ?_, fun k hk => ?_, .inl ⟨rfl, _, _, rfl, by decide +kernel⟩⟩
  · obtain ⟨k, rfl⟩ := k_add hk
    exact outR_ok (by kernel_rfl)
  · obtain ⟨k, rfl⟩ := k_add hk
    exact outR_ok (by kernel_rfl)
  · obtain ⟨k, rfl⟩ := k_add hk
    exact outR_ok (by kernel_rfl)
theorem ri_lt : RI (.tup [.str z_lt, .int a, .int b, .int c]) [.int (12 * 512 + a * 64 + b * 8 + c)] none := by
  refine ⟨rfl, by simp [D.lks, D.lk, le_big, PySem.Str.length], by simp [D.deps, D.dep], by simp, fun k hk => ?_, fun k hk => ?_, fun k hk => ?_, .inl ⟨rfl, _, _, rfl, by decide +kernel⟩⟩
  · obtain ⟨k, rfl⟩ := k_add hk
    exact outR_ok (by kernel_rfl)
  · obtain ⟨k, rfl⟩ := k_add hk
    exact outR_ok (by kernel_rfl)
  · obtain ⟨k, rfl⟩ := k_add hk
    exact outR_ok (by kernel_rfl)
theorem ri_eq : RI (.tup [.str z_eq, .int a, .int b, .int c]) [.int (13 * 512 + a * 64 + b * 8 + c)] none := by
  refine ⟨rfl, by simp [D.lks, D.lk, le_big, PySem.Str.length], by simp [D.deps, D.dep], by simp, fun k hk => ?_, fun k hk => ?_, fun k hk => ?_, .inl ⟨rfl, _, _, rfl, by decide +kernel⟩⟩
  · obtain ⟨k, rfl⟩ := k_add hk
    exact outR_ok (by kernel_rfl)
  · obtain ⟨k, rfl⟩ := k_add hk
    exact outR_ok (by kernel_rfl)
  · obtain ⟨k, rfl⟩ := k_add hk
    exact outR_ok (by kernel_rfl)
theorem ri_low : RI (.tup [.str z_low, .int a, .int b, .int c]) [.int (14 * 512 + a * 64 + c * 8 + 0), .int b] none := by
  refine ⟨rfl, by simp [D.lks, D.lk, le_big, PySem.Str.length], by simp [D.deps, D.dep], by simp, fun k hk => ?_, fun k hk => ?_, fun k hk => ?_, .inl ⟨rfl, _, _, rfl, by decide +kernel⟩⟩
  · obtain ⟨k, rfl⟩ := k_add hk
    exact outR_ok (by kernel_rfl)
  · obtain ⟨k, rfl⟩ := k_add hk
    exact outR_ok (by kernel_rfl)
  · obtain ⟨k, rfl⟩ := k_add hk
    exact outR_ok (by kernel_rfl)
theorem ri_pick : RI (.tup [.str z_pick, .int a, .int b, .int c, .int d]) [.int (15 * 512 + a * 64 + b * 8 + c), .int d] none := by
  refine ⟨rfl, by simp [D.lks, D.lk, le_big, PySem.Str.length], by simp [D.deps, D.dep], by simp, fun k hk => ?_, fun k hk => ?_, fun k hk => ?_, .inl ⟨rfl, _, _, rfl, by decide +kernel⟩⟩
  · obtain ⟨k, rfl⟩ := k_add hk
    exact outR_ok (by kernel_rfl)
  · obtain ⟨k, rfl⟩ := k_add hk
    exact outR_ok (by kernel_rfl)
  · obtain ⟨k, rfl⟩ := k_add hk
    exact outR_ok (by kernel_rfl)
theorem ri_load : RI (.tup [.str z_load, .int a, .str z_mx2eb, .int b]) [.int (16 * 512 + a * 64 + b * 8 + 0), .tup [.str z_base, .str z_mx2eb], .tup [.str z_length, .str z_mx2eb]] none := by
  refine ⟨rfl, by simp [D.lks, D.lk, le_big, PySem.Str.length], by simp [D.deps, D.dep], by simp, fun k hk => ?_, fun k hk => ?_, fun k hk => ?_, .inl ⟨rfl, _, _, rfl, by decide +kernel⟩⟩
  · obtain ⟨k, rfl⟩ := k_add hk
    exact outR_ok (by kernel_rfl)
  · obtain ⟨k, rfl⟩ := k_add hk
    exact outR_ok (by kernel_rfl)
  · obtain ⟨k, rfl⟩ := k_add hk
    exact outR_ok (by kernel_rfl)
theorem ri_store : RI (.tup [.str z_store, .str z_mx2eb, .int a, .int b]) [.int (17 * 512 + a * 64 + b * 8 + 0), .tup [.str z_base, .str z_mx2eb], .tup [.str z_length, .str z_mx2eb], .tup [.str z_width, .str z_mx2eb]] none := by
  refine ⟨rfl, by simp [D.lks, D.lk, le_big, PySem.Str.length], by simp [D.deps, D.dep], by simp, fun k hk => ?_, fun k hk => ?_, fun k hk => ?_, .inl ⟨rfl, _, _, rfl, by decide +kernel⟩⟩
  · obtain ⟨k, rfl⟩ := k_add hk
    exact outR_ok (by kernel_rfl)
  · obtain ⟨k, rfl⟩ := k_add hk
    exact outR_ok (by kernel_rfl)
  · obtain ⟨k, rfl⟩ := k_add hk
    exact outR_ok (by kernel_rfl)
theorem ri_get : RI (.tup [.str z_get, .int a, .int b]) [.int (18 * 512 + a * 64 + 0 * 8 + 0), .int b] none := by
  refine ⟨rfl, by simp [D.lks, D.lk, le_big, PySem.Str.length], by simp [D.deps, D.dep], by simp, fun k hk => ?_, fun k hk => ?_, fun k hk => ?_, .inl ⟨rfl, _, _, rfl, by decide +kernel⟩⟩
  · obtain ⟨k, rfl⟩ := k_add hk
    exact outR_ok (by kernel_rfl)
  · obtain ⟨k, rfl⟩ := k_add hk
    exact outR_ok (by kernel_rfl)
  · obtain ⟨k, rfl⟩ := k_add hk
    exact outR_ok (by kernel_rfl)
theorem ri_put : RI (.tup [.str z_put, .int a, .int b]) [.int (19 * 512 + b * 64 + 0 * 8 + 0), .int a] none := by
  refine ⟨rfl, by simp [D.lks, D.lk, le_big, PySem.Str.length], by simp [D.deps, D.dep], by simp, fun k hk => ?_, fun k hk => ?_, fun k hk => ?_, .inl ⟨rfl, _, _, rfl, by decide +kernel⟩⟩
  · obtain ⟨k, rfl⟩ := k_add hk
    exact outR_ok (by kernel_rfl)
  · obtain ⟨k, rfl⟩ := k_add hk
    exact outR_ok (by kernel_rfl)
  · obtain ⟨k, rfl⟩ := k_add hk
    exact outR_ok (by kernel_rfl)
theorem ri_out : RI (.tup [.str z_out, .int a]) [.int (20 * 512 + a * 64 + 0 * 8 + 0)] none := by
  refine ⟨rfl, by simp [D.lks, D.lk, le_big, PySem.Str.length], by simp [D.deps, D.dep], by simp, fun k hk => ?_, fun k hk => ?_, fun k hk => ?_, .inl ⟨rfl, _, _, rfl, by decide +kernel⟩⟩
  · obtain ⟨k, rfl⟩ := k_add hk
    exact outR_ok (by kernel_rfl)
  · obtain ⟨k, rfl⟩ := k_add hk
    exact outR_ok (by kernel_rfl)
  · obtain ⟨k, rfl⟩ := k_add hk
    exact outR_ok (by kernel_rfl)
theorem ri_move : RI (.tup [.str z_move, .int a, .int b]) [.int (11 * 512 + a * 64 + b * 8 + 0)] none := by
  refine ⟨rfl, by simp [D.lks, D.lk, le_big, PySem.Str.length], by simp [D.deps, D.dep], by simp, fun k hk => ?_, fun k hk => ?_, fun k hk => ?_, .inl ⟨rfl, _, _, rfl, by decide +kernel⟩⟩
  · obtain ⟨k, rfl⟩ := k_add hk
    exact outR_ok (by kernel_rfl)
  · obtain ⟨k, rfl⟩ := k_add hk
    exact outR_ok (by kernel_rfl)
  · obtain ⟨k, rfl⟩ := k_add hk
    exact outR_ok (by kernel_rfl)
theorem ri_jump : RI (.tup [.str z_jump, .int a, .int b]) [.int (23 * 512 + a * 64 + 0 * 8 + 0), .tup [.str z_label, .int b]] none := by
  refine ⟨rfl, by simp [D.lks, D.lk, le_big, PySem.Str.length], by simp [D.deps, D.dep], by simp, fun k hk => ?_, fun k hk => ?_, fun k hk => ?_, .inl ⟨rfl, _, _, rfl, by decide +kernel⟩⟩
  · obtain ⟨k, rfl⟩ := k_add hk
    exact outR_ok (by kernel_rfl)
  · obtain ⟨k, rfl⟩ := k_add hk
    exact outR_ok (by kernel_rfl)
  · obtain ⟨k, rfl⟩ := k_add hk
    exact outR_ok (by kernel_rfl)
theorem ri_jumpz : RI (.tup [.str z_jumpz, .int a, .int b]) [.int (24 * 512 + a * 64 + 0 * 8 + 0), .tup [.str z_label, .int b]] none := by
  refine ⟨rfl, by simp [D.lks, D.lk, le_big, PySem.Str.length], by simp [D.deps, D.dep], by simp, fun k hk => ?_, fun k hk => ?_, fun k hk => ?_, .inl ⟨rfl, _, _, rfl, by decide +kernel⟩⟩
  · obtain ⟨k, rfl⟩ := k_add hk
    exact outR_ok (by kernel_rfl)
  · obtain ⟨k, rfl⟩ := k_add hk
    exact outR_ok (by kernel_rfl)
  · obtain ⟨k, rfl⟩ := k_add hk
    exact outR_ok (by kernel_rfl)
theorem ri_word : RI (.tup [.str z_word, .int a, .int b]) [.int (10 * 512 + a * 64 + 0 * 8 + 0), .int b] none := by
  refine ⟨rfl, by simp [D.lks, D.lk, le_big, PySem.Str.length], by simp [D.deps, D.dep], by simp, fun k hk => ?_, fun k hk => ?_, fun k hk => ?_, .inl ⟨rfl, _, _, rfl, by decide +kernel⟩⟩
  · obtain ⟨k, rfl⟩ := k_add hk
    exact outR_ok (by kernel_rfl)
  · obtain ⟨k, rfl⟩ := k_add hk
    exact outR_ok (by kernel_rfl)
  · obtain ⟨k, rfl⟩ := k_add hk
    exact outR_ok (by kernel_rfl)
theorem ri_call : RI (.tup [.str z_call, .str z_nx2eg]) [.int (21 * 512 + 0 * 64 + 0 * 8 + 0), .tup [.str z_function, .str z_nx2eg]] none := by
  refine ⟨rfl, by simp [D.lks, D.lk, le_big, PySem.Str.length], by simp [D.deps, D.dep], by simp, fun k hk => ?_, fun k hk => ?_, fun k hk => ?_, .inl ⟨rfl, _, _, rfl, by decide +kernel⟩⟩
  · obtain ⟨k, rfl⟩ := k_add hk
    exact outR_ok (by kernel_rfl)
  · obtain ⟨k, rfl⟩ := k_add hk
    exact outR_ok (by kernel_rfl)
  · obtain ⟨k, rfl⟩ := k_add hk
    exact outR_ok (by kernel_rfl)
theorem ri_go : RI (.tup [.str z_go, .int a]) [.int (22 * 512 + 0 * 64 + 0 * 8 + 0), .tup [.str z_label, .int a]] none := by
  refine ⟨rfl, by simp [D.lks, D.lk, le_big, PySem.Str.length], by simp [D.deps, D.dep], by simp, fun k hk => ?_, fun k hk => ?_, fun k hk => ?_, .inl ⟨rfl, _, _, rfl, by decide +kernel⟩⟩
  · obtain ⟨k, rfl⟩ := k_add hk
    exact outR_ok (by kernel_rfl)
  · obtain ⟨k, rfl⟩ := k_add hk
    exact outR_ok (by kernel_rfl)
  · obtain ⟨k, rfl⟩ := k_add hk
    exact outR_ok (by kernel_rfl)
theorem ri_give : RI (.tup [.str z_give]) [.int (25 * 512 + 0 * 64 + 0 * 8 + 0)] none := by
  refine ⟨rfl, by simp [D.lks, D.lk, le_big, PySem.Str.length], by simp [D.deps, D.dep], by simp, fun k hk => ?_, fun k hk => ?_, fun k hk => ?_, .inl ⟨rfl, _, _, rfl, by decide +kernel⟩⟩
  · obtain ⟨k, rfl⟩ := k_add hk
    exact outR_ok (by kernel_rfl)
  · obtain ⟨k, rfl⟩ := k_add hk
    exact outR_ok (by kernel_rfl)
  · obtain ⟨k, rfl⟩ := k_add hk
    exact outR_ok (by kernel_rfl)
theorem ri_halt : RI (.tup [.str z_halt, .str z_stop]) [.int (26 * 512 + 0 * 64 + 0 * 8 + 0), .tup [.str z_halt, .str z_stop]] none := by
  refine ⟨rfl, by simp [D.lks, D.lk, le_big, PySem.Str.length], by simp [D.deps, D.dep], by simp, fun k hk => ?_, fun k hk => ?_, fun k hk => ?_, .inl ⟨rfl, _, _, rfl, by decide +kernel⟩⟩
  · obtain ⟨k, rfl⟩ := k_add hk
    exact outR_ok (by kernel_rfl)
  · obtain ⟨k, rfl⟩ := k_add hk
    exact outR_ok (by kernel_rfl)
  · obtain ⟨k, rfl⟩ := k_add hk
    exact outR_ok (by kernel_rfl)
theorem ri_label : RI (.tup [.str z_label, .int a]) [] (some a) := by
  refine ⟨rfl, by simp [D.lks, D.lk, le_big, PySem.Str.length], by simp [D.deps, D.dep], by simp, fun k hk => ?_, fun k hk => ?_, fun k hk => ?_, .inr ⟨_, rfl, rfl⟩⟩
  · obtain ⟨k, rfl⟩ := k_add hk
    exact outR_ok (by kernel_rfl)
  · obtain ⟨k, rfl⟩ := k_add hk
    exact outR_ok (by kernel_rfl)
  · obtain ⟨k, rfl⟩ := k_add hk
    exact outR_ok (by kernel_rfl)
end
end Lk02

namespace Lk02
open PySem J
open L2 (Key atI)
def rowS : List S := b__law_row.body.drop 1
def rowS0 : S := b__law_row.body.headD .pass
theorem row_body : b__law_row.body = rowS0 :: rowS := rfl
theorem bl0 : (0 : Nat) ≤ big := le_big (by decide)
theorem bl1 : (1 : Nat) ≤ big := le_big (by decide)
theorem bl2 : (2 : Nat) ≤ big := le_big (by decide)
theorem bl3 : (3 : Nat) ≤ big := le_big (by decide)
theorem bl4 : (4 : Nat) ≤ big := le_big (by decide)
theorem bl5 : (5 : Nat) ≤ big := le_big (by decide)
theorem bl6 : (6 : Nat) ≤ big := le_big (by decide)
theorem bl10 : (10 : Nat) ≤ big := le_big (by decide)
def ops10 : List D := [.str z_add, .str z_sub, .str z_mul, .str z_and, .str z_or, .str z_xor, .str z_shl, .str z_shr, .str z_div, .str z_mod]
theorem ri_op {i a b c : Int} (h0 : 0 ≤ i) (h1 : i < 10) : ∃ ws, RI (.tup [gt ops10 i, .int a, .int b, .int c]) ws none := by
  have hm : gt ops10 i ∈ ops10 := gt_mem h0 (by simpa [ops10] using h1)
  generalize gt ops10 i = d at hm
  simp only [ops10, List.mem_cons, List.not_mem_nil, or_false] at hm
  rcases hm with rfl | rfl | rfl | rfl | rfl | rfl | rfl | rfl | rfl | rfl
  · exact ⟨_, ri_add⟩
  · exact ⟨_, ri_sub⟩
  · exact ⟨_, ri_mul⟩
  · exact ⟨_, ri_and⟩
  · exact ⟨_, ri_or⟩
  · exact ⟨_, ri_xor⟩
  · exact ⟨_, ri_shl⟩
  · exact ⟨_, ri_shr⟩
  · exact ⟨_, ri_div⟩
  · exact ⟨_, ri_mod⟩
def ops2 : List D := [.str z_lt, .str z_eq]
theorem ri_op2 {i a b c : Int} (h0 : 0 ≤ i) (h1 : i < 2) : ∃ ws, RI (.tup [gt ops2 i, .int a, .int b, .int c]) ws none := by
  have hm : gt ops2 i ∈ ops2 := gt_mem h0 (by simpa [ops2] using h1)
  generalize gt ops2 i = d at hm
  simp only [ops2, List.mem_cons, List.not_mem_nil, or_false] at hm
  rcases hm with rfl | rfl
  · exact ⟨_, ri_lt⟩
  · exact ⟨_, ri_eq⟩
def ops2j : List D := [.str z_jump, .str z_jumpz]
theorem ri_opj {i a b : Int} (h0 : 0 ≤ i) (h1 : i < 2) : ∃ ws, RI (.tup [gt ops2j i, .int a, .int b]) ws none := by
  have hm : gt ops2j i ∈ ops2j := gt_mem h0 (by simpa [ops2j] using h1)
  generalize gt ops2j i = d at hm
  simp only [ops2j, List.mem_cons, List.not_mem_nil, or_false] at hm
  rcases hm with rfl | rfl
  · exact ⟨_, ri_jump⟩
  · exact ⟨_, ri_jumpz⟩
def nums6 : List D := [.int 0, .int 1, .int 2, .int 3, .int 7, .int 65535]
theorem ri_nums {i a : Int} (h0 : 0 ≤ i) (h1 : i < 6) : ∃ ws, RI (.tup [.str z_word, .int a, gt nums6 i]) ws none := by
  have hm : gt nums6 i ∈ nums6 := gt_mem h0 (by simpa [nums6] using h1)
  generalize gt nums6 i = d at hm
  simp only [nums6, List.mem_cons, List.not_mem_nil, or_false] at hm
  rcases hm with rfl | rfl | rfl | rfl | rfl | rfl <;> exact ⟨_, ri_word⟩
section
variable {k : Nat} (hk : 5 ≤ k) {xs : List Int} {n : Nat} (hn : n < 1000000000) {l s a b c d : Int}
include hk hn
theorem at10 {M : Mem} : atI ops10 (dr xs n 10) = some (gt ops10 (dr xs n 10)) := atI_gt (dr_lo (by omega)) (dr_hi (by omega))
theorem rest_ok (hl : 0 ≤ l) (hs : 0 ≤ s) {sort : Int} (h0 : 0 ≤ sort) (h1 : sort < 12) : ∃ row ws n' g, n ≤ n' ∧ n' ≤ n + 3 ∧ RI row ws none ∧
    fin (exSs (callP (runF PG k)) PG.con rowS [some (.cell 0), some (.int l), some (.int s), some (.cell 2), some (.int sort), none] [boxC 1 n, digC xs, .lst [.int a, .int b, .int c, .int d]]) = .ok row (boxC 1 n' :: digC xs :: g) := by
  have k1 : 1 ≤ k := by omega
  have n0 : n < 1000000000000 := by omega
  have n1 : n + 1 < 1000000000000 := by omega
  have n2 : n + 1 + 1 < 1000000000000 := by omega
  have ld : ∀ {n : Nat} {m : Int}, 0 < m → 0 ≤ dr xs n m := fun h => dr_lo h
  have hd : ∀ {n : Nat} {m : Int}, 0 < m → dr xs n m < m := fun h => dr_hi h
  have p : sort = 0 ∨ sort = 1 ∨ sort = 2 ∨ sort = 3 ∨ sort = 4 ∨ sort = 5 ∨ sort = 6 ∨ sort = 7 ∨ sort = 8 ∨ sort = 9 ∨ sort = 10 ∨ sort = 11 := by omega
  have g10 : atI [.str z_add, .str z_sub, .str z_mul, .str z_and, .str z_or, .str z_xor, .str z_shl, .str z_shr, .str z_div, .str z_mod] (dr xs n 10) = some (gt ops10 (dr xs n 10)) := atI_gt (ds := ops10) (ld (by omega)) (hd (by omega))
  have g2 : atI [.str z_lt, .str z_eq] (dr xs n 2) = some (gt ops2 (dr xs n 2)) := atI_gt (ds := ops2) (ld (by omega)) (hd (by omega))
  have gj : atI [.str z_jump, .str z_jumpz] (dr xs n 2) = some (gt ops2j (dr xs n 2)) := atI_gt (ds := ops2j) (ld (by omega)) (hd (by omega))
  have g6 : atI [.int 0, .int 1, .int 2, .int 3, .int 7, .int 65535] (dr xs n 6) = some (gt nums6 (dr xs n 6)) := atI_gt (ds := nums6) (ld (by omega)) (hd (by omega))
  obtain ⟨w1, r1⟩ := ri_op (i := dr xs n 10) (a := a) (b := b) (c := c) (ld (by omega)) (hd (by omega))
  obtain ⟨w2, r2⟩ := ri_op2 (i := dr xs n 2) (a := a) (b := b) (c := c) (ld (by omega)) (hd (by omega))
  obtain ⟨w3, r3⟩ := ri_nums (i := dr xs n 6) (a := a) (ld (by omega)) (hd (by omega))
  have word : ∀ {sort : Int}, (sort = 7 ∧ s = 0) ∨ (sort = 10 ∧ l = 0) ∨ sort = 11 → ∃ row ws n' g, n ≤ n' ∧ n' ≤ n + 3 ∧ RI row ws none ∧
    fin (exSs (callP (runF PG k)) PG.con rowS [some (.cell 0), some (.int l), some (.int s), some (.cell 2), some (.int sort), none] [boxC 1 n, digC xs, .lst [.int a, .int b, .int c, .int d]]) = .ok row (boxC 1 n' :: digC xs :: g) := by
    intro sort h
    refine ⟨_, _, n + 1, [.lst [.int a, .int b, .int c, .int d], .lst nums6], by omega, by omega, r3, ?_⟩
    rcases h with ⟨rfl, rfl⟩ | ⟨rfl, rfl⟩ | rfl <;>
    simp only [rowS, b__law_row, List.drop_succ_cons, List.drop_zero, v_dcomp, v_gget, v_gin, v_gix2, i_enuE, i_zipE, lstC_f, ixC_f, m_extendT, ok_dcomp, ok_gget, ok_gin, ok_gix2, pt_dcomp, pt_gget, pt_gin, pt_gix2, x_bind, x_bindS, x_seq, x_seqR, x_seqB, x_seqC, x_nil, x_cons, x_asg, x_setx, x_aug, x_exp, x_ret, x_retn, x_iff, x_forr, x_brk, x_cont, x_pass, v_var, v_con, v_glo, v_gix, v_tup, v_lst, v_dis, v_bin, v_neg, v_cmp, v_cmp2, v_not, v_and, v_or, v_ite, v_call, v_blt, v_mth, v_ix, v_sl, v_comp, es_nil, es_cons, es_star, p_nop, p_e, i_rng, i_e, cs_nil, cs_cons, tt_e, tt_cmp, tt_cmp2, tt_not, tt_and, tt_or, tt_ite, valO_some, ofO_some, noE_ok, fin_rt, fin_nx, bl_tt, bl_ff, bl_tf, bl_ft, asgT, asgTs, wipeR, lst_C, dic_C, lstC_l, lstC_d, dicC_l, dicC_d, d_addI, d_addS, d_addT, d_addL, d_sub, d_mul, d_fdiv, d_mod, d_augI, d_augSub, d_augL, c_eqI, c_eqS, c_neI, c_neS, c_lt, c_le, c_gt, c_ge, c_isn, c_isnn, c_isb, c_isnb, c_in, c_nin, in_tup, in_dic, eqF_S, eqF_I, tr_non, tr_bl, tr_int, tr_str, tr_tup, tr_rol, truC_l, truC_d, tr_cell, isi_non, isi_bl, isi_int, isi_str, isi_tup, isi_rol, isiC_l, isiC_d, isi_cell, isiT, isNonD, isBlD, ix_tup, ix_rol, ixC_l, ixC_d, ix_cell, sl_tup, sl_rol, sl_cell, setC_l, setC_d, set_cell, key_i, key_s, part_i, star_tup, star_rol, star_cell, it_tup, it_rol, it_cell, b_lenT, b_lenR, b_lenS, lenC_l, lenC_d, b_lenC, b_intI, b_intB, b_tupT, b_tupR, b_tupC, b_lstT, b_lstR, b_lstC, b_dict, b_isi, mo_join, mo_get, mo_append, mo_extend, mo_pop, mo_index, isStr_s, m_append, m_extend, m_pop, m_index, m_joinC, m_get1, m_get2, catL_ok, augL_ok, dicL_ok, appL_ok, extL_ok, capT_ok, capL_ok, le_big, lt_big, ok_var, ok_con, ok_glo, ok_gix, ok_tup, ok_lst, ok_dis, ok_bin, ok_neg, ok_cmp, ok_cmp2, ok_not, ok_and, ok_or, ok_ite, ok_call, ok_blt, ok_mth, ok_ix, ok_sl, ok_comp, pt_var, pt_con, pt_glo, pt_tup, pt_lst, pt_bin, pt_call, pt_blt, pt_mth, pt_ix, pt_sl, pt_comp, List.getElem?_cons_zero, List.getElem?_cons_succ, List.set_cons_zero, List.set_cons_succ, List.map_cons, List.map_nil, List.replicate_succ, List.replicate_zero, List.cons_append, List.nil_append, List.length_cons, List.length_nil, List.append_nil, Option.bind_some, Option.bind_none, Option.map_some, Option.map_none, Option.isSome_some, Option.isSome_none, Nat.reduceAdd, Nat.reduceSub, Nat.reduceLeDiff, Nat.reduceEqDiff, Nat.reduceLT, if_true, if_false, Bool.false_eq_true, Bool.and_true, Bool.true_and, Bool.and_false, Bool.false_and, Bool.not_true, Bool.not_false, Bool.or_true, Bool.true_or, Bool.or_false, Bool.false_or, Bool.and_self, ite_true, ite_false, decide_true, decide_false, reduceIte, Int.reduceLT, Int.reduceLE, Int.reduceNeg, Int.reducePow, Int.reduceEq, and_self, and_true, true_and, dec_str, prop_str, leq_cc, leq_nn, leq_nc, leq_cn, at_0, at_1, at_2, at_3, at_4, at_5, at_6, at_m1, cut_1, cut_2, cut_3, isE_c, isE_n, isiT_t, Int.reduceBEq, beq_self_eq_true, cst_0, cst_1, cst_2, cst_3, cst_4, cst_5, cst_6, cst_7, cst_8, cst_9, fl_s, fl_i, fl_b, fl_n, fl_t, List.all_cons, List.all_nil, List.any_cons, List.any_nil, Nat.reduceBEq, bl2, bl3, bl4, bl6, bl10, x_draw gf__law_draw k1, n0, n1, g6, nums6]
  rcases p with rfl | rfl | rfl | rfl | rfl | rfl | rfl | rfl | rfl | rfl | rfl | rfl
  · refine ⟨_, _, n + 1, [.lst [.int a, .int b, .int c, .int d], .lst ops10], by omega, by omega, r1, ?_⟩
    simp only [rowS, b__law_row, List.drop_succ_cons, List.drop_zero, v_dcomp, v_gget, v_gin, v_gix2, i_enuE, i_zipE, lstC_f, ixC_f, m_extendT, ok_dcomp, ok_gget, ok_gin, ok_gix2, pt_dcomp, pt_gget, pt_gin, pt_gix2, x_bind, x_bindS, x_seq, x_seqR, x_seqB, x_seqC, x_nil, x_cons, x_asg, x_setx, x_aug, x_exp, x_ret, x_retn, x_iff, x_forr, x_brk, x_cont, x_pass, v_var, v_con, v_glo, v_gix, v_tup, v_lst, v_dis, v_bin, v_neg, v_cmp, v_cmp2, v_not, v_and, v_or, v_ite, v_call, v_blt, v_mth, v_ix, v_sl, v_comp, es_nil, es_cons, es_star, p_nop, p_e, i_rng, i_e, cs_nil, cs_cons, tt_e, tt_cmp, tt_cmp2, tt_not, tt_and, tt_or, tt_ite, valO_some, ofO_some, noE_ok, fin_rt, fin_nx, bl_tt, bl_ff, bl_tf, bl_ft, asgT, asgTs, wipeR, lst_C, dic_C, lstC_l, lstC_d, dicC_l, dicC_d, d_addI, d_addS, d_addT, d_addL, d_sub, d_mul, d_fdiv, d_mod, d_augI, d_augSub, d_augL, c_eqI, c_eqS, c_neI, c_neS, c_lt, c_le, c_gt, c_ge, c_isn, c_isnn, c_isb, c_isnb, c_in, c_nin, in_tup, in_dic, eqF_S, eqF_I, tr_non, tr_bl, tr_int, tr_str, tr_tup, tr_rol, truC_l, truC_d, tr_cell, isi_non, isi_bl, isi_int, isi_str, isi_tup, isi_rol, isiC_l, isiC_d, isi_cell, isiT, isNonD, isBlD, ix_tup, ix_rol, ixC_l, ixC_d, ix_cell, sl_tup, sl_rol, sl_cell, setC_l, setC_d, set_cell, key_i, key_s, part_i, star_tup, star_rol, star_cell, it_tup, it_rol, it_cell, b_lenT, b_lenR, b_lenS, lenC_l, lenC_d, b_lenC, b_intI, b_intB, b_tupT, b_tupR, b_tupC, b_lstT, b_lstR, b_lstC, b_dict, b_isi, mo_join, mo_get, mo_append, mo_extend, mo_pop, mo_index, isStr_s, m_append, m_extend, m_pop, m_index, m_joinC, m_get1, m_get2, catL_ok, augL_ok, dicL_ok, appL_ok, extL_ok, capT_ok, capL_ok, le_big, lt_big, ok_var, ok_con, ok_glo, ok_gix, ok_tup, ok_lst, ok_dis, ok_bin, ok_neg, ok_cmp, ok_cmp2, ok_not, ok_and, ok_or, ok_ite, ok_call, ok_blt, ok_mth, ok_ix, ok_sl, ok_comp, pt_var, pt_con, pt_glo, pt_tup, pt_lst, pt_bin, pt_call, pt_blt, pt_mth, pt_ix, pt_sl, pt_comp, List.getElem?_cons_zero, List.getElem?_cons_succ, List.set_cons_zero, List.set_cons_succ, List.map_cons, List.map_nil, List.replicate_succ, List.replicate_zero, List.cons_append, List.nil_append, List.length_cons, List.length_nil, List.append_nil, Option.bind_some, Option.bind_none, Option.map_some, Option.map_none, Option.isSome_some, Option.isSome_none, Nat.reduceAdd, Nat.reduceSub, Nat.reduceLeDiff, Nat.reduceEqDiff, Nat.reduceLT, if_true, if_false, Bool.false_eq_true, Bool.and_true, Bool.true_and, Bool.and_false, Bool.false_and, Bool.not_true, Bool.not_false, Bool.or_true, Bool.true_or, Bool.or_false, Bool.false_or, Bool.and_self, ite_true, ite_false, decide_true, decide_false, reduceIte, Int.reduceLT, Int.reduceLE, Int.reduceNeg, Int.reducePow, Int.reduceEq, and_self, and_true, true_and, dec_str, prop_str, leq_cc, leq_nn, leq_nc, leq_cn, at_0, at_1, at_2, at_3, at_4, at_5, at_6, at_m1, cut_1, cut_2, cut_3, isE_c, isE_n, isiT_t, Int.reduceBEq, beq_self_eq_true, cst_0, cst_1, cst_2, cst_3, cst_4, cst_5, cst_6, cst_7, cst_8, cst_9, fl_s, fl_i, fl_b, fl_n, fl_t, List.all_cons, List.all_nil, List.any_cons, List.any_nil, Nat.reduceBEq, bl2, bl3, bl4, bl10, x_draw gf__law_draw k1, n0, g10, ops10]
  · refine ⟨_, _, n + 1, [.lst [.int a, .int b, .int c, .int d], .lst ops10], by omega, by omega, r1, ?_⟩
    simp only [rowS, b__law_row, List.drop_succ_cons, List.drop_zero, v_dcomp, v_gget, v_gin, v_gix2, i_enuE, i_zipE, lstC_f, ixC_f, m_extendT, ok_dcomp, ok_gget, ok_gin, ok_gix2, pt_dcomp, pt_gget, pt_gin, pt_gix2, x_bind, x_bindS, x_seq, x_seqR, x_seqB, x_seqC, x_nil, x_cons, x_asg, x_setx, x_aug, x_exp, x_ret, x_retn, x_iff, x_forr, x_brk, x_cont, x_pass, v_var, v_con, v_glo, v_gix, v_tup, v_lst, v_dis, v_bin, v_neg, v_cmp, v_cmp2, v_not, v_and, v_or, v_ite, v_call, v_blt, v_mth, v_ix, v_sl, v_comp, es_nil, es_cons, es_star, p_nop, p_e, i_rng, i_e, cs_nil, cs_cons, tt_e, tt_cmp, tt_cmp2, tt_not, tt_and, tt_or, tt_ite, valO_some, ofO_some, noE_ok, fin_rt, fin_nx, bl_tt, bl_ff, bl_tf, bl_ft, asgT, asgTs, wipeR, lst_C, dic_C, lstC_l, lstC_d, dicC_l, dicC_d, d_addI, d_addS, d_addT, d_addL, d_sub, d_mul, d_fdiv, d_mod, d_augI, d_augSub, d_augL, c_eqI, c_eqS, c_neI, c_neS, c_lt, c_le, c_gt, c_ge, c_isn, c_isnn, c_isb, c_isnb, c_in, c_nin, in_tup, in_dic, eqF_S, eqF_I, tr_non, tr_bl, tr_int, tr_str, tr_tup, tr_rol, truC_l, truC_d, tr_cell, isi_non, isi_bl, isi_int, isi_str, isi_tup, isi_rol, isiC_l, isiC_d, isi_cell, isiT, isNonD, isBlD, ix_tup, ix_rol, ixC_l, ixC_d, ix_cell, sl_tup, sl_rol, sl_cell, setC_l, setC_d, set_cell, key_i, key_s, part_i, star_tup, star_rol, star_cell, it_tup, it_rol, it_cell, b_lenT, b_lenR, b_lenS, lenC_l, lenC_d, b_lenC, b_intI, b_intB, b_tupT, b_tupR, b_tupC, b_lstT, b_lstR, b_lstC, b_dict, b_isi, mo_join, mo_get, mo_append, mo_extend, mo_pop, mo_index, isStr_s, m_append, m_extend, m_pop, m_index, m_joinC, m_get1, m_get2, catL_ok, augL_ok, dicL_ok, appL_ok, extL_ok, capT_ok, capL_ok, le_big, lt_big, ok_var, ok_con, ok_glo, ok_gix, ok_tup, ok_lst, ok_dis, ok_bin, ok_neg, ok_cmp, ok_cmp2, ok_not, ok_and, ok_or, ok_ite, ok_call, ok_blt, ok_mth, ok_ix, ok_sl, ok_comp, pt_var, pt_con, pt_glo, pt_tup, pt_lst, pt_bin, pt_call, pt_blt, pt_mth, pt_ix, pt_sl, pt_comp, List.getElem?_cons_zero, List.getElem?_cons_succ, List.set_cons_zero, List.set_cons_succ, List.map_cons, List.map_nil, List.replicate_succ, List.replicate_zero, List.cons_append, List.nil_append, List.length_cons, List.length_nil, List.append_nil, Option.bind_some, Option.bind_none, Option.map_some, Option.map_none, Option.isSome_some, Option.isSome_none, Nat.reduceAdd, Nat.reduceSub, Nat.reduceLeDiff, Nat.reduceEqDiff, Nat.reduceLT, if_true, if_false, Bool.false_eq_true, Bool.and_true, Bool.true_and, Bool.and_false, Bool.false_and, Bool.not_true, Bool.not_false, Bool.or_true, Bool.true_or, Bool.or_false, Bool.false_or, Bool.and_self, ite_true, ite_false, decide_true, decide_false, reduceIte, Int.reduceLT, Int.reduceLE, Int.reduceNeg, Int.reducePow, Int.reduceEq, and_self, and_true, true_and, dec_str, prop_str, leq_cc, leq_nn, leq_nc, leq_cn, at_0, at_1, at_2, at_3, at_4, at_5, at_6, at_m1, cut_1, cut_2, cut_3, isE_c, isE_n, isiT_t, Int.reduceBEq, beq_self_eq_true, cst_0, cst_1, cst_2, cst_3, cst_4, cst_5, cst_6, cst_7, cst_8, cst_9, fl_s, fl_i, fl_b, fl_n, fl_t, List.all_cons, List.all_nil, List.any_cons, List.any_nil, Nat.reduceBEq, bl2, bl3, bl4, bl10, x_draw gf__law_draw k1, n0, g10, ops10]
  · refine ⟨_, _, n + 1, [.lst [.int a, .int b, .int c, .int d], .lst ops10], by omega, by omega, r1, ?_⟩
    simp only [rowS, b__law_row, List.drop_succ_cons, List.drop_zero, v_dcomp, v_gget, v_gin, v_gix2, i_enuE, i_zipE, lstC_f, ixC_f, m_extendT, ok_dcomp, ok_gget, ok_gin, ok_gix2, pt_dcomp, pt_gget, pt_gin, pt_gix2, x_bind, x_bindS, x_seq, x_seqR, x_seqB, x_seqC, x_nil, x_cons, x_asg, x_setx, x_aug, x_exp, x_ret, x_retn, x_iff, x_forr, x_brk, x_cont, x_pass, v_var, v_con, v_glo, v_gix, v_tup, v_lst, v_dis, v_bin, v_neg, v_cmp, v_cmp2, v_not, v_and, v_or, v_ite, v_call, v_blt, v_mth, v_ix, v_sl, v_comp, es_nil, es_cons, es_star, p_nop, p_e, i_rng, i_e, cs_nil, cs_cons, tt_e, tt_cmp, tt_cmp2, tt_not, tt_and, tt_or, tt_ite, valO_some, ofO_some, noE_ok, fin_rt, fin_nx, bl_tt, bl_ff, bl_tf, bl_ft, asgT, asgTs, wipeR, lst_C, dic_C, lstC_l, lstC_d, dicC_l, dicC_d, d_addI, d_addS, d_addT, d_addL, d_sub, d_mul, d_fdiv, d_mod, d_augI, d_augSub, d_augL, c_eqI, c_eqS, c_neI, c_neS, c_lt, c_le, c_gt, c_ge, c_isn, c_isnn, c_isb, c_isnb, c_in, c_nin, in_tup, in_dic, eqF_S, eqF_I, tr_non, tr_bl, tr_int, tr_str, tr_tup, tr_rol, truC_l, truC_d, tr_cell, isi_non, isi_bl, isi_int, isi_str, isi_tup, isi_rol, isiC_l, isiC_d, isi_cell, isiT, isNonD, isBlD, ix_tup, ix_rol, ixC_l, ixC_d, ix_cell, sl_tup, sl_rol, sl_cell, setC_l, setC_d, set_cell, key_i, key_s, part_i, star_tup, star_rol, star_cell, it_tup, it_rol, it_cell, b_lenT, b_lenR, b_lenS, lenC_l, lenC_d, b_lenC, b_intI, b_intB, b_tupT, b_tupR, b_tupC, b_lstT, b_lstR, b_lstC, b_dict, b_isi, mo_join, mo_get, mo_append, mo_extend, mo_pop, mo_index, isStr_s, m_append, m_extend, m_pop, m_index, m_joinC, m_get1, m_get2, catL_ok, augL_ok, dicL_ok, appL_ok, extL_ok, capT_ok, capL_ok, le_big, lt_big, ok_var, ok_con, ok_glo, ok_gix, ok_tup, ok_lst, ok_dis, ok_bin, ok_neg, ok_cmp, ok_cmp2, ok_not, ok_and, ok_or, ok_ite, ok_call, ok_blt, ok_mth, ok_ix, ok_sl, ok_comp, pt_var, pt_con, pt_glo, pt_tup, pt_lst, pt_bin, pt_call, pt_blt, pt_mth, pt_ix, pt_sl, pt_comp, List.getElem?_cons_zero, List.getElem?_cons_succ, List.set_cons_zero, List.set_cons_succ, List.map_cons, List.map_nil, List.replicate_succ, List.replicate_zero, List.cons_append, List.nil_append, List.length_cons, List.length_nil, List.append_nil, Option.bind_some, Option.bind_none, Option.map_some, Option.map_none, Option.isSome_some, Option.isSome_none, Nat.reduceAdd, Nat.reduceSub, Nat.reduceLeDiff, Nat.reduceEqDiff, Nat.reduceLT, if_true, if_false, Bool.false_eq_true, Bool.and_true, Bool.true_and, Bool.and_false, Bool.false_and, Bool.not_true, Bool.not_false, Bool.or_true, Bool.true_or, Bool.or_false, Bool.false_or, Bool.and_self, ite_true, ite_false, decide_true, decide_false, reduceIte, Int.reduceLT, Int.reduceLE, Int.reduceNeg, Int.reducePow, Int.reduceEq, and_self, and_true, true_and, dec_str, prop_str, leq_cc, leq_nn, leq_nc, leq_cn, at_0, at_1, at_2, at_3, at_4, at_5, at_6, at_m1, cut_1, cut_2, cut_3, isE_c, isE_n, isiT_t, Int.reduceBEq, beq_self_eq_true, cst_0, cst_1, cst_2, cst_3, cst_4, cst_5, cst_6, cst_7, cst_8, cst_9, fl_s, fl_i, fl_b, fl_n, fl_t, List.all_cons, List.all_nil, List.any_cons, List.any_nil, Nat.reduceBEq, bl2, bl3, bl4, bl10, x_draw gf__law_draw k1, n0, g10, ops10]
  · refine ⟨_, _, n + 1, [.lst [.int a, .int b, .int c, .int d], .lst ops2], by omega, by omega, r2, ?_⟩
    simp only [rowS, b__law_row, List.drop_succ_cons, List.drop_zero, v_dcomp, v_gget, v_gin, v_gix2, i_enuE, i_zipE, lstC_f, ixC_f, m_extendT, ok_dcomp, ok_gget, ok_gin, ok_gix2, pt_dcomp, pt_gget, pt_gin, pt_gix2, x_bind, x_bindS, x_seq, x_seqR, x_seqB, x_seqC, x_nil, x_cons, x_asg, x_setx, x_aug, x_exp, x_ret, x_retn, x_iff, x_forr, x_brk, x_cont, x_pass, v_var, v_con, v_glo, v_gix, v_tup, v_lst, v_dis, v_bin, v_neg, v_cmp, v_cmp2, v_not, v_and, v_or, v_ite, v_call, v_blt, v_mth, v_ix, v_sl, v_comp, es_nil, es_cons, es_star, p_nop, p_e, i_rng, i_e, cs_nil, cs_cons, tt_e, tt_cmp, tt_cmp2, tt_not, tt_and, tt_or, tt_ite, valO_some, ofO_some, noE_ok, fin_rt, fin_nx, bl_tt, bl_ff, bl_tf, bl_ft, asgT, asgTs, wipeR, lst_C, dic_C, lstC_l, lstC_d, dicC_l, dicC_d, d_addI, d_addS, d_addT, d_addL, d_sub, d_mul, d_fdiv, d_mod, d_augI, d_augSub, d_augL, c_eqI, c_eqS, c_neI, c_neS, c_lt, c_le, c_gt, c_ge, c_isn, c_isnn, c_isb, c_isnb, c_in, c_nin, in_tup, in_dic, eqF_S, eqF_I, tr_non, tr_bl, tr_int, tr_str, tr_tup, tr_rol, truC_l, truC_d, tr_cell, isi_non, isi_bl, isi_int, isi_str, isi_tup, isi_rol, isiC_l, isiC_d, isi_cell, isiT, isNonD, isBlD, ix_tup, ix_rol, ixC_l, ixC_d, ix_cell, sl_tup, sl_rol, sl_cell, setC_l, setC_d, set_cell, key_i, key_s, part_i, star_tup, star_rol, star_cell, it_tup, it_rol, it_cell, b_lenT, b_lenR, b_lenS, lenC_l, lenC_d, b_lenC, b_intI, b_intB, b_tupT, b_tupR, b_tupC, b_lstT, b_lstR, b_lstC, b_dict, b_isi, mo_join, mo_get, mo_append, mo_extend, mo_pop, mo_index, isStr_s, m_append, m_extend, m_pop, m_index, m_joinC, m_get1, m_get2, catL_ok, augL_ok, dicL_ok, appL_ok, extL_ok, capT_ok, capL_ok, le_big, lt_big, ok_var, ok_con, ok_glo, ok_gix, ok_tup, ok_lst, ok_dis, ok_bin, ok_neg, ok_cmp, ok_cmp2, ok_not, ok_and, ok_or, ok_ite, ok_call, ok_blt, ok_mth, ok_ix, ok_sl, ok_comp, pt_var, pt_con, pt_glo, pt_tup, pt_lst, pt_bin, pt_call, pt_blt, pt_mth, pt_ix, pt_sl, pt_comp, List.getElem?_cons_zero, List.getElem?_cons_succ, List.set_cons_zero, List.set_cons_succ, List.map_cons, List.map_nil, List.replicate_succ, List.replicate_zero, List.cons_append, List.nil_append, List.length_cons, List.length_nil, List.append_nil, Option.bind_some, Option.bind_none, Option.map_some, Option.map_none, Option.isSome_some, Option.isSome_none, Nat.reduceAdd, Nat.reduceSub, Nat.reduceLeDiff, Nat.reduceEqDiff, Nat.reduceLT, if_true, if_false, Bool.false_eq_true, Bool.and_true, Bool.true_and, Bool.and_false, Bool.false_and, Bool.not_true, Bool.not_false, Bool.or_true, Bool.true_or, Bool.or_false, Bool.false_or, Bool.and_self, ite_true, ite_false, decide_true, decide_false, reduceIte, Int.reduceLT, Int.reduceLE, Int.reduceNeg, Int.reducePow, Int.reduceEq, and_self, and_true, true_and, dec_str, prop_str, leq_cc, leq_nn, leq_nc, leq_cn, at_0, at_1, at_2, at_3, at_4, at_5, at_6, at_m1, cut_1, cut_2, cut_3, isE_c, isE_n, isiT_t, Int.reduceBEq, beq_self_eq_true, cst_0, cst_1, cst_2, cst_3, cst_4, cst_5, cst_6, cst_7, cst_8, cst_9, fl_s, fl_i, fl_b, fl_n, fl_t, List.all_cons, List.all_nil, List.any_cons, List.any_nil, Nat.reduceBEq, bl2, bl3, bl4, bl10, x_draw gf__law_draw k1, n0, g2, ops2]
  · refine ⟨_, _, n + 1, [.lst [.int a, .int b, .int c, .int d]], by omega, by omega, ri_low (a := a) (b := 1 + dr xs n 16) (c := b), ?_⟩
    simp only [rowS, b__law_row, List.drop_succ_cons, List.drop_zero, v_dcomp, v_gget, v_gin, v_gix2, i_enuE, i_zipE, lstC_f, ixC_f, m_extendT, ok_dcomp, ok_gget, ok_gin, ok_gix2, pt_dcomp, pt_gget, pt_gin, pt_gix2, x_bind, x_bindS, x_seq, x_seqR, x_seqB, x_seqC, x_nil, x_cons, x_asg, x_setx, x_aug, x_exp, x_ret, x_retn, x_iff, x_forr, x_brk, x_cont, x_pass, v_var, v_con, v_glo, v_gix, v_tup, v_lst, v_dis, v_bin, v_neg, v_cmp, v_cmp2, v_not, v_and, v_or, v_ite, v_call, v_blt, v_mth, v_ix, v_sl, v_comp, es_nil, es_cons, es_star, p_nop, p_e, i_rng, i_e, cs_nil, cs_cons, tt_e, tt_cmp, tt_cmp2, tt_not, tt_and, tt_or, tt_ite, valO_some, ofO_some, noE_ok, fin_rt, fin_nx, bl_tt, bl_ff, bl_tf, bl_ft, asgT, asgTs, wipeR, lst_C, dic_C, lstC_l, lstC_d, dicC_l, dicC_d, d_addI, d_addS, d_addT, d_addL, d_sub, d_mul, d_fdiv, d_mod, d_augI, d_augSub, d_augL, c_eqI, c_eqS, c_neI, c_neS, c_lt, c_le, c_gt, c_ge, c_isn, c_isnn, c_isb, c_isnb, c_in, c_nin, in_tup, in_dic, eqF_S, eqF_I, tr_non, tr_bl, tr_int, tr_str, tr_tup, tr_rol, truC_l, truC_d, tr_cell, isi_non, isi_bl, isi_int, isi_str, isi_tup, isi_rol, isiC_l, isiC_d, isi_cell, isiT, isNonD, isBlD, ix_tup, ix_rol, ixC_l, ixC_d, ix_cell, sl_tup, sl_rol, sl_cell, setC_l, setC_d, set_cell, key_i, key_s, part_i, star_tup, star_rol, star_cell, it_tup, it_rol, it_cell, b_lenT, b_lenR, b_lenS, lenC_l, lenC_d, b_lenC, b_intI, b_intB, b_tupT, b_tupR, b_tupC, b_lstT, b_lstR, b_lstC, b_dict, b_isi, mo_join, mo_get, mo_append, mo_extend, mo_pop, mo_index, isStr_s, m_append, m_extend, m_pop, m_index, m_joinC, m_get1, m_get2, catL_ok, augL_ok, dicL_ok, appL_ok, extL_ok, capT_ok, capL_ok, le_big, lt_big, ok_var, ok_con, ok_glo, ok_gix, ok_tup, ok_lst, ok_dis, ok_bin, ok_neg, ok_cmp, ok_cmp2, ok_not, ok_and, ok_or, ok_ite, ok_call, ok_blt, ok_mth, ok_ix, ok_sl, ok_comp, pt_var, pt_con, pt_glo, pt_tup, pt_lst, pt_bin, pt_call, pt_blt, pt_mth, pt_ix, pt_sl, pt_comp, List.getElem?_cons_zero, List.getElem?_cons_succ, List.set_cons_zero, List.set_cons_succ, List.map_cons, List.map_nil, List.replicate_succ, List.replicate_zero, List.cons_append, List.nil_append, List.length_cons, List.length_nil, List.append_nil, Option.bind_some, Option.bind_none, Option.map_some, Option.map_none, Option.isSome_some, Option.isSome_none, Nat.reduceAdd, Nat.reduceSub, Nat.reduceLeDiff, Nat.reduceEqDiff, Nat.reduceLT, if_true, if_false, Bool.false_eq_true, Bool.and_true, Bool.true_and, Bool.and_false, Bool.false_and, Bool.not_true, Bool.not_false, Bool.or_true, Bool.true_or, Bool.or_false, Bool.false_or, Bool.and_self, ite_true, ite_false, decide_true, decide_false, reduceIte, Int.reduceLT, Int.reduceLE, Int.reduceNeg, Int.reducePow, Int.reduceEq, and_self, and_true, true_and, dec_str, prop_str, leq_cc, leq_nn, leq_nc, leq_cn, at_0, at_1, at_2, at_3, at_4, at_5, at_6, at_m1, cut_1, cut_2, cut_3, isE_c, isE_n, isiT_t, Int.reduceBEq, beq_self_eq_true, cst_0, cst_1, cst_2, cst_3, cst_4, cst_5, cst_6, cst_7, cst_8, cst_9, fl_s, fl_i, fl_b, fl_n, fl_t, List.all_cons, List.all_nil, List.any_cons, List.any_nil, Nat.reduceBEq, bl2, bl3, bl4, bl10, x_draw gf__law_draw k1, n0]
  · refine ⟨_, _, n, [.lst [.int a, .int b, .int c, .int d]], by omega, by omega, ri_pick (a := a) (b := b) (c := c) (d := d), ?_⟩
    simp only [rowS, b__law_row, List.drop_succ_cons, List.drop_zero, v_dcomp, v_gget, v_gin, v_gix2, i_enuE, i_zipE, lstC_f, ixC_f, m_extendT, ok_dcomp, ok_gget, ok_gin, ok_gix2, pt_dcomp, pt_gget, pt_gin, pt_gix2, x_bind, x_bindS, x_seq, x_seqR, x_seqB, x_seqC, x_nil, x_cons, x_asg, x_setx, x_aug, x_exp, x_ret, x_retn, x_iff, x_forr, x_brk, x_cont, x_pass, v_var, v_con, v_glo, v_gix, v_tup, v_lst, v_dis, v_bin, v_neg, v_cmp, v_cmp2, v_not, v_and, v_or, v_ite, v_call, v_blt, v_mth, v_ix, v_sl, v_comp, es_nil, es_cons, es_star, p_nop, p_e, i_rng, i_e, cs_nil, cs_cons, tt_e, tt_cmp, tt_cmp2, tt_not, tt_and, tt_or, tt_ite, valO_some, ofO_some, noE_ok, fin_rt, fin_nx, bl_tt, bl_ff, bl_tf, bl_ft, asgT, asgTs, wipeR, lst_C, dic_C, lstC_l, lstC_d, dicC_l, dicC_d, d_addI, d_addS, d_addT, d_addL, d_sub, d_mul, d_fdiv, d_mod, d_augI, d_augSub, d_augL, c_eqI, c_eqS, c_neI, c_neS, c_lt, c_le, c_gt, c_ge, c_isn, c_isnn, c_isb, c_isnb, c_in, c_nin, in_tup, in_dic, eqF_S, eqF_I, tr_non, tr_bl, tr_int, tr_str, tr_tup, tr_rol, truC_l, truC_d, tr_cell, isi_non, isi_bl, isi_int, isi_str, isi_tup, isi_rol, isiC_l, isiC_d, isi_cell, isiT, isNonD, isBlD, ix_tup, ix_rol, ixC_l, ixC_d, ix_cell, sl_tup, sl_rol, sl_cell, setC_l, setC_d, set_cell, key_i, key_s, part_i, star_tup, star_rol, star_cell, it_tup, it_rol, it_cell, b_lenT, b_lenR, b_lenS, lenC_l, lenC_d, b_lenC, b_intI, b_intB, b_tupT, b_tupR, b_tupC, b_lstT, b_lstR, b_lstC, b_dict, b_isi, mo_join, mo_get, mo_append, mo_extend, mo_pop, mo_index, isStr_s, m_append, m_extend, m_pop, m_index, m_joinC, m_get1, m_get2, catL_ok, augL_ok, dicL_ok, appL_ok, extL_ok, capT_ok, capL_ok, le_big, lt_big, ok_var, ok_con, ok_glo, ok_gix, ok_tup, ok_lst, ok_dis, ok_bin, ok_neg, ok_cmp, ok_cmp2, ok_not, ok_and, ok_or, ok_ite, ok_call, ok_blt, ok_mth, ok_ix, ok_sl, ok_comp, pt_var, pt_con, pt_glo, pt_tup, pt_lst, pt_bin, pt_call, pt_blt, pt_mth, pt_ix, pt_sl, pt_comp, List.getElem?_cons_zero, List.getElem?_cons_succ, List.set_cons_zero, List.set_cons_succ, List.map_cons, List.map_nil, List.replicate_succ, List.replicate_zero, List.cons_append, List.nil_append, List.length_cons, List.length_nil, List.append_nil, Option.bind_some, Option.bind_none, Option.map_some, Option.map_none, Option.isSome_some, Option.isSome_none, Nat.reduceAdd, Nat.reduceSub, Nat.reduceLeDiff, Nat.reduceEqDiff, Nat.reduceLT, if_true, if_false, Bool.false_eq_true, Bool.and_true, Bool.true_and, Bool.and_false, Bool.false_and, Bool.not_true, Bool.not_false, Bool.or_true, Bool.true_or, Bool.or_false, Bool.false_or, Bool.and_self, ite_true, ite_false, decide_true, decide_false, reduceIte, Int.reduceLT, Int.reduceLE, Int.reduceNeg, Int.reducePow, Int.reduceEq, and_self, and_true, true_and, dec_str, prop_str, leq_cc, leq_nn, leq_nc, leq_cn, at_0, at_1, at_2, at_3, at_4, at_5, at_6, at_m1, cut_1, cut_2, cut_3, isE_c, isE_n, isiT_t, Int.reduceBEq, beq_self_eq_true, cst_0, cst_1, cst_2, cst_3, cst_4, cst_5, cst_6, cst_7, cst_8, cst_9, fl_s, fl_i, fl_b, fl_n, fl_t, List.all_cons, List.all_nil, List.any_cons, List.any_nil, Nat.reduceBEq, bl2, bl3, bl4, bl5, x_draw gf__law_draw k1, n0]
  · by_cases hz : dr xs n 2 = 0
    · refine ⟨_, _, n + 1, [.lst [.int a, .int b, .int c, .int d]], by omega, by omega, ri_load (a := a) (b := b), ?_⟩
      simp only [rowS, b__law_row, List.drop_succ_cons, List.drop_zero, v_dcomp, v_gget, v_gin, v_gix2, i_enuE, i_zipE, lstC_f, ixC_f, m_extendT, ok_dcomp, ok_gget, ok_gin, ok_gix2, pt_dcomp, pt_gget, pt_gin, pt_gix2, x_bind, x_bindS, x_seq, x_seqR, x_seqB, x_seqC, x_nil, x_cons, x_asg, x_setx, x_aug, x_exp, x_ret, x_retn, x_iff, x_forr, x_brk, x_cont, x_pass, v_var, v_con, v_glo, v_gix, v_tup, v_lst, v_dis, v_bin, v_neg, v_cmp, v_cmp2, v_not, v_and, v_or, v_ite, v_call, v_blt, v_mth, v_ix, v_sl, v_comp, es_nil, es_cons, es_star, p_nop, p_e, i_rng, i_e, cs_nil, cs_cons, tt_e, tt_cmp, tt_cmp2, tt_not, tt_and, tt_or, tt_ite, valO_some, ofO_some, noE_ok, fin_rt, fin_nx, bl_tt, bl_ff, bl_tf, bl_ft, asgT, asgTs, wipeR, lst_C, dic_C, lstC_l, lstC_d, dicC_l, dicC_d, d_addI, d_addS, d_addT, d_addL, d_sub, d_mul, d_fdiv, d_mod, d_augI, d_augSub, d_augL, c_eqI, c_eqS, c_neI, c_neS, c_lt, c_le, c_gt, c_ge, c_isn, c_isnn, c_isb, c_isnb, c_in, c_nin, in_tup, in_dic, eqF_S, eqF_I, tr_non, tr_bl, tr_int, tr_str, tr_tup, tr_rol, truC_l, truC_d, tr_cell, isi_non, isi_bl, isi_int, isi_str, isi_tup, isi_rol, isiC_l, isiC_d, isi_cell, isiT, isNonD, isBlD, ix_tup, ix_rol, ixC_l, ixC_d, ix_cell, sl_tup, sl_rol, sl_cell, setC_l, setC_d, set_cell, key_i, key_s, part_i, star_tup, star_rol, star_cell, it_tup, it_rol, it_cell, b_lenT, b_lenR, b_lenS, lenC_l, lenC_d, b_lenC, b_intI, b_intB, b_tupT, b_tupR, b_tupC, b_lstT, b_lstR, b_lstC, b_dict, b_isi, mo_join, mo_get, mo_append, mo_extend, mo_pop, mo_index, isStr_s, m_append, m_extend, m_pop, m_index, m_joinC, m_get1, m_get2, catL_ok, augL_ok, dicL_ok, appL_ok, extL_ok, capT_ok, capL_ok, le_big, lt_big, ok_var, ok_con, ok_glo, ok_gix, ok_tup, ok_lst, ok_dis, ok_bin, ok_neg, ok_cmp, ok_cmp2, ok_not, ok_and, ok_or, ok_ite, ok_call, ok_blt, ok_mth, ok_ix, ok_sl, ok_comp, pt_var, pt_con, pt_glo, pt_tup, pt_lst, pt_bin, pt_call, pt_blt, pt_mth, pt_ix, pt_sl, pt_comp, List.getElem?_cons_zero, List.getElem?_cons_succ, List.set_cons_zero, List.set_cons_succ, List.map_cons, List.map_nil, List.replicate_succ, List.replicate_zero, List.cons_append, List.nil_append, List.length_cons, List.length_nil, List.append_nil, Option.bind_some, Option.bind_none, Option.map_some, Option.map_none, Option.isSome_some, Option.isSome_none, Nat.reduceAdd, Nat.reduceSub, Nat.reduceLeDiff, Nat.reduceEqDiff, Nat.reduceLT, if_true, if_false, Bool.false_eq_true, Bool.and_true, Bool.true_and, Bool.and_false, Bool.false_and, Bool.not_true, Bool.not_false, Bool.or_true, Bool.true_or, Bool.or_false, Bool.false_or, Bool.and_self, ite_true, ite_false, decide_true, decide_false, reduceIte, Int.reduceLT, Int.reduceLE, Int.reduceNeg, Int.reducePow, Int.reduceEq, and_self, and_true, true_and, dec_str, prop_str, leq_cc, leq_nn, leq_nc, leq_cn, at_0, at_1, at_2, at_3, at_4, at_5, at_6, at_m1, cut_1, cut_2, cut_3, isE_c, isE_n, isiT_t, Int.reduceBEq, beq_self_eq_true, cst_0, cst_1, cst_2, cst_3, cst_4, cst_5, cst_6, cst_7, cst_8, cst_9, fl_s, fl_i, fl_b, fl_n, fl_t, List.all_cons, List.all_nil, List.any_cons, List.any_nil, Nat.reduceBEq, bl2, bl3, bl4, bl5, x_draw gf__law_draw k1, n0, hz]
    · refine ⟨_, _, n + 1, [.lst [.int a, .int b, .int c, .int d]], by omega, by omega, ri_store (a := a) (b := b), ?_⟩
      have hz' : (dr xs n 2 == 0) = false := by simpa using hz
      simp only [rowS, b__law_row, List.drop_succ_cons, List.drop_zero, v_dcomp, v_gget, v_gin, v_gix2, i_enuE, i_zipE, lstC_f, ixC_f, m_extendT, ok_dcomp, ok_gget, ok_gin, ok_gix2, pt_dcomp, pt_gget, pt_gin, pt_gix2, x_bind, x_bindS, x_seq, x_seqR, x_seqB, x_seqC, x_nil, x_cons, x_asg, x_setx, x_aug, x_exp, x_ret, x_retn, x_iff, x_forr, x_brk, x_cont, x_pass, v_var, v_con, v_glo, v_gix, v_tup, v_lst, v_dis, v_bin, v_neg, v_cmp, v_cmp2, v_not, v_and, v_or, v_ite, v_call, v_blt, v_mth, v_ix, v_sl, v_comp, es_nil, es_cons, es_star, p_nop, p_e, i_rng, i_e, cs_nil, cs_cons, tt_e, tt_cmp, tt_cmp2, tt_not, tt_and, tt_or, tt_ite, valO_some, ofO_some, noE_ok, fin_rt, fin_nx, bl_tt, bl_ff, bl_tf, bl_ft, asgT, asgTs, wipeR, lst_C, dic_C, lstC_l, lstC_d, dicC_l, dicC_d, d_addI, d_addS, d_addT, d_addL, d_sub, d_mul, d_fdiv, d_mod, d_augI, d_augSub, d_augL, c_eqI, c_eqS, c_neI, c_neS, c_lt, c_le, c_gt, c_ge, c_isn, c_isnn, c_isb, c_isnb, c_in, c_nin, in_tup, in_dic, eqF_S, eqF_I, tr_non, tr_bl, tr_int, tr_str, tr_tup, tr_rol, truC_l, truC_d, tr_cell, isi_non, isi_bl, isi_int, isi_str, isi_tup, isi_rol, isiC_l, isiC_d, isi_cell, isiT, isNonD, isBlD, ix_tup, ix_rol, ixC_l, ixC_d, ix_cell, sl_tup, sl_rol, sl_cell, setC_l, setC_d, set_cell, key_i, key_s, part_i, star_tup, star_rol, star_cell, it_tup, it_rol, it_cell, b_lenT, b_lenR, b_lenS, lenC_l, lenC_d, b_lenC, b_intI, b_intB, b_tupT, b_tupR, b_tupC, b_lstT, b_lstR, b_lstC, b_dict, b_isi, mo_join, mo_get, mo_append, mo_extend, mo_pop, mo_index, isStr_s, m_append, m_extend, m_pop, m_index, m_joinC, m_get1, m_get2, catL_ok, augL_ok, dicL_ok, appL_ok, extL_ok, capT_ok, capL_ok, le_big, lt_big, ok_var, ok_con, ok_glo, ok_gix, ok_tup, ok_lst, ok_dis, ok_bin, ok_neg, ok_cmp, ok_cmp2, ok_not, ok_and, ok_or, ok_ite, ok_call, ok_blt, ok_mth, ok_ix, ok_sl, ok_comp, pt_var, pt_con, pt_glo, pt_tup, pt_lst, pt_bin, pt_call, pt_blt, pt_mth, pt_ix, pt_sl, pt_comp, List.getElem?_cons_zero, List.getElem?_cons_succ, List.set_cons_zero, List.set_cons_succ, List.map_cons, List.map_nil, List.replicate_succ, List.replicate_zero, List.cons_append, List.nil_append, List.length_cons, List.length_nil, List.append_nil, Option.bind_some, Option.bind_none, Option.map_some, Option.map_none, Option.isSome_some, Option.isSome_none, Nat.reduceAdd, Nat.reduceSub, Nat.reduceLeDiff, Nat.reduceEqDiff, Nat.reduceLT, if_true, if_false, Bool.false_eq_true, Bool.and_true, Bool.true_and, Bool.and_false, Bool.false_and, Bool.not_true, Bool.not_false, Bool.or_true, Bool.true_or, Bool.or_false, Bool.false_or, Bool.and_self, ite_true, ite_false, decide_true, decide_false, reduceIte, Int.reduceLT, Int.reduceLE, Int.reduceNeg, Int.reducePow, Int.reduceEq, and_self, and_true, true_and, dec_str, prop_str, leq_cc, leq_nn, leq_nc, leq_cn, at_0, at_1, at_2, at_3, at_4, at_5, at_6, at_m1, cut_1, cut_2, cut_3, isE_c, isE_n, isiT_t, Int.reduceBEq, beq_self_eq_true, cst_0, cst_1, cst_2, cst_3, cst_4, cst_5, cst_6, cst_7, cst_8, cst_9, fl_s, fl_i, fl_b, fl_n, fl_t, List.all_cons, List.all_nil, List.any_cons, List.any_nil, Nat.reduceBEq, bl2, bl3, bl4, bl5, x_draw gf__law_draw k1, n0, hz']
  · by_cases hs0 : s = 0
    · exact word (.inl ⟨rfl, hs0⟩)
    have hs1 : 0 < s := by omega
    by_cases hz : dr xs n 2 = 0
    · refine ⟨_, _, n + 1 + 1, [.lst [.int a, .int b, .int c, .int d]], by omega, by omega, ri_get (a := a) (b := dr xs (n + 1) s), ?_⟩
      simp only [rowS, b__law_row, List.drop_succ_cons, List.drop_zero, v_dcomp, v_gget, v_gin, v_gix2, i_enuE, i_zipE, lstC_f, ixC_f, m_extendT, ok_dcomp, ok_gget, ok_gin, ok_gix2, pt_dcomp, pt_gget, pt_gin, pt_gix2, x_bind, x_bindS, x_seq, x_seqR, x_seqB, x_seqC, x_nil, x_cons, x_asg, x_setx, x_aug, x_exp, x_ret, x_retn, x_iff, x_forr, x_brk, x_cont, x_pass, v_var, v_con, v_glo, v_gix, v_tup, v_lst, v_dis, v_bin, v_neg, v_cmp, v_cmp2, v_not, v_and, v_or, v_ite, v_call, v_blt, v_mth, v_ix, v_sl, v_comp, es_nil, es_cons, es_star, p_nop, p_e, i_rng, i_e, cs_nil, cs_cons, tt_e, tt_cmp, tt_cmp2, tt_not, tt_and, tt_or, tt_ite, valO_some, ofO_some, noE_ok, fin_rt, fin_nx, bl_tt, bl_ff, bl_tf, bl_ft, asgT, asgTs, wipeR, lst_C, dic_C, lstC_l, lstC_d, dicC_l, dicC_d, d_addI, d_addS, d_addT, d_addL, d_sub, d_mul, d_fdiv, d_mod, d_augI, d_augSub, d_augL, c_eqI, c_eqS, c_neI, c_neS, c_lt, c_le, c_gt, c_ge, c_isn, c_isnn, c_isb, c_isnb, c_in, c_nin, in_tup, in_dic, eqF_S, eqF_I, tr_non, tr_bl, tr_int, tr_str, tr_tup, tr_rol, truC_l, truC_d, tr_cell, isi_non, isi_bl, isi_int, isi_str, isi_tup, isi_rol, isiC_l, isiC_d, isi_cell, isiT, isNonD, isBlD, ix_tup, ix_rol, ixC_l, ixC_d, ix_cell, sl_tup, sl_rol, sl_cell, setC_l, setC_d, set_cell, key_i, key_s, part_i, star_tup, star_rol, star_cell, it_tup, it_rol, it_cell, b_lenT, b_lenR, b_lenS, lenC_l, lenC_d, b_lenC, b_intI, b_intB, b_tupT, b_tupR, b_tupC, b_lstT, b_lstR, b_lstC, b_dict, b_isi, mo_join, mo_get, mo_append, mo_extend, mo_pop, mo_index, isStr_s, m_append, m_extend, m_pop, m_index, m_joinC, m_get1, m_get2, catL_ok, augL_ok, dicL_ok, appL_ok, extL_ok, capT_ok, capL_ok, le_big, lt_big, ok_var, ok_con, ok_glo, ok_gix, ok_tup, ok_lst, ok_dis, ok_bin, ok_neg, ok_cmp, ok_cmp2, ok_not, ok_and, ok_or, ok_ite, ok_call, ok_blt, ok_mth, ok_ix, ok_sl, ok_comp, pt_var, pt_con, pt_glo, pt_tup, pt_lst, pt_bin, pt_call, pt_blt, pt_mth, pt_ix, pt_sl, pt_comp, List.getElem?_cons_zero, List.getElem?_cons_succ, List.set_cons_zero, List.set_cons_succ, List.map_cons, List.map_nil, List.replicate_succ, List.replicate_zero, List.cons_append, List.nil_append, List.length_cons, List.length_nil, List.append_nil, Option.bind_some, Option.bind_none, Option.map_some, Option.map_none, Option.isSome_some, Option.isSome_none, Nat.reduceAdd, Nat.reduceSub, Nat.reduceLeDiff, Nat.reduceEqDiff, Nat.reduceLT, if_true, if_false, Bool.false_eq_true, Bool.and_true, Bool.true_and, Bool.and_false, Bool.false_and, Bool.not_true, Bool.not_false, Bool.or_true, Bool.true_or, Bool.or_false, Bool.false_or, Bool.and_self, ite_true, ite_false, decide_true, decide_false, reduceIte, Int.reduceLT, Int.reduceLE, Int.reduceNeg, Int.reducePow, Int.reduceEq, and_self, and_true, true_and, dec_str, prop_str, leq_cc, leq_nn, leq_nc, leq_cn, at_0, at_1, at_2, at_3, at_4, at_5, at_6, at_m1, cut_1, cut_2, cut_3, isE_c, isE_n, isiT_t, Int.reduceBEq, beq_self_eq_true, cst_0, cst_1, cst_2, cst_3, cst_4, cst_5, cst_6, cst_7, cst_8, cst_9, fl_s, fl_i, fl_b, fl_n, fl_t, List.all_cons, List.all_nil, List.any_cons, List.any_nil, Nat.reduceBEq, bl2, bl3, bl4, bl5, x_draw gf__law_draw k1, n0, n1, hz, hs1]
    · refine ⟨_, _, n + 1 + 1, [.lst [.int a, .int b, .int c, .int d]], by omega, by omega, ri_put (b := a) (a := dr xs (n + 1) s), ?_⟩
      have hz' : (dr xs n 2 == 0) = false := by simpa using hz
      simp only [rowS, b__law_row, List.drop_succ_cons, List.drop_zero, v_dcomp, v_gget, v_gin, v_gix2, i_enuE, i_zipE, lstC_f, ixC_f, m_extendT, ok_dcomp, ok_gget, ok_gin, ok_gix2, pt_dcomp, pt_gget, pt_gin, pt_gix2, x_bind, x_bindS, x_seq, x_seqR, x_seqB, x_seqC, x_nil, x_cons, x_asg, x_setx, x_aug, x_exp, x_ret, x_retn, x_iff, x_forr, x_brk, x_cont, x_pass, v_var, v_con, v_glo, v_gix, v_tup, v_lst, v_dis, v_bin, v_neg, v_cmp, v_cmp2, v_not, v_and, v_or, v_ite, v_call, v_blt, v_mth, v_ix, v_sl, v_comp, es_nil, es_cons, es_star, p_nop, p_e, i_rng, i_e, cs_nil, cs_cons, tt_e, tt_cmp, tt_cmp2, tt_not, tt_and, tt_or, tt_ite, valO_some, ofO_some, noE_ok, fin_rt, fin_nx, bl_tt, bl_ff, bl_tf, bl_ft, asgT, asgTs, wipeR, lst_C, dic_C, lstC_l, lstC_d, dicC_l, dicC_d, d_addI, d_addS, d_addT, d_addL, d_sub, d_mul, d_fdiv, d_mod, d_augI, d_augSub, d_augL, c_eqI, c_eqS, c_neI, c_neS, c_lt, c_le, c_gt, c_ge, c_isn, c_isnn, c_isb, c_isnb, c_in, c_nin, in_tup, in_dic, eqF_S, eqF_I, tr_non, tr_bl, tr_int, tr_str, tr_tup, tr_rol, truC_l, truC_d, tr_cell, isi_non, isi_bl, isi_int, isi_str, isi_tup, isi_rol, isiC_l, isiC_d, isi_cell, isiT, isNonD, isBlD, ix_tup, ix_rol, ixC_l, ixC_d, ix_cell, sl_tup, sl_rol, sl_cell, setC_l, setC_d, set_cell, key_i, key_s, part_i, star_tup, star_rol, star_cell, it_tup, it_rol, it_cell, b_lenT, b_lenR, b_lenS, lenC_l, lenC_d, b_lenC, b_intI, b_intB, b_tupT, b_tupR, b_tupC, b_lstT, b_lstR, b_lstC, b_dict, b_isi, mo_join, mo_get, mo_append, mo_extend, mo_pop, mo_index, isStr_s, m_append, m_extend, m_pop, m_index, m_joinC, m_get1, m_get2, catL_ok, augL_ok, dicL_ok, appL_ok, extL_ok, capT_ok, capL_ok, le_big, lt_big, ok_var, ok_con, ok_glo, ok_gix, ok_tup, ok_lst, ok_dis, ok_bin, ok_neg, ok_cmp, ok_cmp2, ok_not, ok_and, ok_or, ok_ite, ok_call, ok_blt, ok_mth, ok_ix, ok_sl, ok_comp, pt_var, pt_con, pt_glo, pt_tup, pt_lst, pt_bin, pt_call, pt_blt, pt_mth, pt_ix, pt_sl, pt_comp, List.getElem?_cons_zero, List.getElem?_cons_succ, List.set_cons_zero, List.set_cons_succ, List.map_cons, List.map_nil, List.replicate_succ, List.replicate_zero, List.cons_append, List.nil_append, List.length_cons, List.length_nil, List.append_nil, Option.bind_some, Option.bind_none, Option.map_some, Option.map_none, Option.isSome_some, Option.isSome_none, Nat.reduceAdd, Nat.reduceSub, Nat.reduceLeDiff, Nat.reduceEqDiff, Nat.reduceLT, if_true, if_false, Bool.false_eq_true, Bool.and_true, Bool.true_and, Bool.and_false, Bool.false_and, Bool.not_true, Bool.not_false, Bool.or_true, Bool.true_or, Bool.or_false, Bool.false_or, Bool.and_self, ite_true, ite_false, decide_true, decide_false, reduceIte, Int.reduceLT, Int.reduceLE, Int.reduceNeg, Int.reducePow, Int.reduceEq, and_self, and_true, true_and, dec_str, prop_str, leq_cc, leq_nn, leq_nc, leq_cn, at_0, at_1, at_2, at_3, at_4, at_5, at_6, at_m1, cut_1, cut_2, cut_3, isE_c, isE_n, isiT_t, Int.reduceBEq, beq_self_eq_true, cst_0, cst_1, cst_2, cst_3, cst_4, cst_5, cst_6, cst_7, cst_8, cst_9, fl_s, fl_i, fl_b, fl_n, fl_t, List.all_cons, List.all_nil, List.any_cons, List.any_nil, Nat.reduceBEq, bl2, bl3, bl4, bl5, x_draw gf__law_draw k1, n0, n1, hz', hs1]
  · refine ⟨_, _, n, [.lst [.int a, .int b, .int c, .int d]], by omega, by omega, ri_out (a := a), ?_⟩
    simp only [rowS, b__law_row, List.drop_succ_cons, List.drop_zero, v_dcomp, v_gget, v_gin, v_gix2, i_enuE, i_zipE, lstC_f, ixC_f, m_extendT, ok_dcomp, ok_gget, ok_gin, ok_gix2, pt_dcomp, pt_gget, pt_gin, pt_gix2, x_bind, x_bindS, x_seq, x_seqR, x_seqB, x_seqC, x_nil, x_cons, x_asg, x_setx, x_aug, x_exp, x_ret, x_retn, x_iff, x_forr, x_brk, x_cont, x_pass, v_var, v_con, v_glo, v_gix, v_tup, v_lst, v_dis, v_bin, v_neg, v_cmp, v_cmp2, v_not, v_and, v_or, v_ite, v_call, v_blt, v_mth, v_ix, v_sl, v_comp, es_nil, es_cons, es_star, p_nop, p_e, i_rng, i_e, cs_nil, cs_cons, tt_e, tt_cmp, tt_cmp2, tt_not, tt_and, tt_or, tt_ite, valO_some, ofO_some, noE_ok, fin_rt, fin_nx, bl_tt, bl_ff, bl_tf, bl_ft, asgT, asgTs, wipeR, lst_C, dic_C, lstC_l, lstC_d, dicC_l, dicC_d, d_addI, d_addS, d_addT, d_addL, d_sub, d_mul, d_fdiv, d_mod, d_augI, d_augSub, d_augL, c_eqI, c_eqS, c_neI, c_neS, c_lt, c_le, c_gt, c_ge, c_isn, c_isnn, c_isb, c_isnb, c_in, c_nin, in_tup, in_dic, eqF_S, eqF_I, tr_non, tr_bl, tr_int, tr_str, tr_tup, tr_rol, truC_l, truC_d, tr_cell, isi_non, isi_bl, isi_int, isi_str, isi_tup, isi_rol, isiC_l, isiC_d, isi_cell, isiT, isNonD, isBlD, ix_tup, ix_rol, ixC_l, ixC_d, ix_cell, sl_tup, sl_rol, sl_cell, setC_l, setC_d, set_cell, key_i, key_s, part_i, star_tup, star_rol, star_cell, it_tup, it_rol, it_cell, b_lenT, b_lenR, b_lenS, lenC_l, lenC_d, b_lenC, b_intI, b_intB, b_tupT, b_tupR, b_tupC, b_lstT, b_lstR, b_lstC, b_dict, b_isi, mo_join, mo_get, mo_append, mo_extend, mo_pop, mo_index, isStr_s, m_append, m_extend, m_pop, m_index, m_joinC, m_get1, m_get2, catL_ok, augL_ok, dicL_ok, appL_ok, extL_ok, capT_ok, capL_ok, le_big, lt_big, ok_var, ok_con, ok_glo, ok_gix, ok_tup, ok_lst, ok_dis, ok_bin, ok_neg, ok_cmp, ok_cmp2, ok_not, ok_and, ok_or, ok_ite, ok_call, ok_blt, ok_mth, ok_ix, ok_sl, ok_comp, pt_var, pt_con, pt_glo, pt_tup, pt_lst, pt_bin, pt_call, pt_blt, pt_mth, pt_ix, pt_sl, pt_comp, List.getElem?_cons_zero, List.getElem?_cons_succ, List.set_cons_zero, List.set_cons_succ, List.map_cons, List.map_nil, List.replicate_succ, List.replicate_zero, List.cons_append, List.nil_append, List.length_cons, List.length_nil, List.append_nil, Option.bind_some, Option.bind_none, Option.map_some, Option.map_none, Option.isSome_some, Option.isSome_none, Nat.reduceAdd, Nat.reduceSub, Nat.reduceLeDiff, Nat.reduceEqDiff, Nat.reduceLT, if_true, if_false, Bool.false_eq_true, Bool.and_true, Bool.true_and, Bool.and_false, Bool.false_and, Bool.not_true, Bool.not_false, Bool.or_true, Bool.true_or, Bool.or_false, Bool.false_or, Bool.and_self, ite_true, ite_false, decide_true, decide_false, reduceIte, Int.reduceLT, Int.reduceLE, Int.reduceNeg, Int.reducePow, Int.reduceEq, and_self, and_true, true_and, dec_str, prop_str, leq_cc, leq_nn, leq_nc, leq_cn, at_0, at_1, at_2, at_3, at_4, at_5, at_6, at_m1, cut_1, cut_2, cut_3, isE_c, isE_n, isiT_t, Int.reduceBEq, beq_self_eq_true, cst_0, cst_1, cst_2, cst_3, cst_4, cst_5, cst_6, cst_7, cst_8, cst_9, fl_s, fl_i, fl_b, fl_n, fl_t, List.all_cons, List.all_nil, List.any_cons, List.any_nil, Nat.reduceBEq, bl2, bl3, bl4, bl5, x_draw gf__law_draw k1, n0]
  · refine ⟨_, _, n, [.lst [.int a, .int b, .int c, .int d]], by omega, by omega, ri_move (a := a) (b := b), ?_⟩
    simp only [rowS, b__law_row, List.drop_succ_cons, List.drop_zero, v_dcomp, v_gget, v_gin, v_gix2, i_enuE, i_zipE, lstC_f, ixC_f, m_extendT, ok_dcomp, ok_gget, ok_gin, ok_gix2, pt_dcomp, pt_gget, pt_gin, pt_gix2, x_bind, x_bindS, x_seq, x_seqR, x_seqB, x_seqC, x_nil, x_cons, x_asg, x_setx, x_aug, x_exp, x_ret, x_retn, x_iff, x_forr, x_brk, x_cont, x_pass, v_var, v_con, v_glo, v_gix, v_tup, v_lst, v_dis, v_bin, v_neg, v_cmp, v_cmp2, v_not, v_and, v_or, v_ite, v_call, v_blt, v_mth, v_ix, v_sl, v_comp, es_nil, es_cons, es_star, p_nop, p_e, i_rng, i_e, cs_nil, cs_cons, tt_e, tt_cmp, tt_cmp2, tt_not, tt_and, tt_or, tt_ite, valO_some, ofO_some, noE_ok, fin_rt, fin_nx, bl_tt, bl_ff, bl_tf, bl_ft, asgT, asgTs, wipeR, lst_C, dic_C, lstC_l, lstC_d, dicC_l, dicC_d, d_addI, d_addS, d_addT, d_addL, d_sub, d_mul, d_fdiv, d_mod, d_augI, d_augSub, d_augL, c_eqI, c_eqS, c_neI, c_neS, c_lt, c_le, c_gt, c_ge, c_isn, c_isnn, c_isb, c_isnb, c_in, c_nin, in_tup, in_dic, eqF_S, eqF_I, tr_non, tr_bl, tr_int, tr_str, tr_tup, tr_rol, truC_l, truC_d, tr_cell, isi_non, isi_bl, isi_int, isi_str, isi_tup, isi_rol, isiC_l, isiC_d, isi_cell, isiT, isNonD, isBlD, ix_tup, ix_rol, ixC_l, ixC_d, ix_cell, sl_tup, sl_rol, sl_cell, setC_l, setC_d, set_cell, key_i, key_s, part_i, star_tup, star_rol, star_cell, it_tup, it_rol, it_cell, b_lenT, b_lenR, b_lenS, lenC_l, lenC_d, b_lenC, b_intI, b_intB, b_tupT, b_tupR, b_tupC, b_lstT, b_lstR, b_lstC, b_dict, b_isi, mo_join, mo_get, mo_append, mo_extend, mo_pop, mo_index, isStr_s, m_append, m_extend, m_pop, m_index, m_joinC, m_get1, m_get2, catL_ok, augL_ok, dicL_ok, appL_ok, extL_ok, capT_ok, capL_ok, le_big, lt_big, ok_var, ok_con, ok_glo, ok_gix, ok_tup, ok_lst, ok_dis, ok_bin, ok_neg, ok_cmp, ok_cmp2, ok_not, ok_and, ok_or, ok_ite, ok_call, ok_blt, ok_mth, ok_ix, ok_sl, ok_comp, pt_var, pt_con, pt_glo, pt_tup, pt_lst, pt_bin, pt_call, pt_blt, pt_mth, pt_ix, pt_sl, pt_comp, List.getElem?_cons_zero, List.getElem?_cons_succ, List.set_cons_zero, List.set_cons_succ, List.map_cons, List.map_nil, List.replicate_succ, List.replicate_zero, List.cons_append, List.nil_append, List.length_cons, List.length_nil, List.append_nil, Option.bind_some, Option.bind_none, Option.map_some, Option.map_none, Option.isSome_some, Option.isSome_none, Nat.reduceAdd, Nat.reduceSub, Nat.reduceLeDiff, Nat.reduceEqDiff, Nat.reduceLT, if_true, if_false, Bool.false_eq_true, Bool.and_true, Bool.true_and, Bool.and_false, Bool.false_and, Bool.not_true, Bool.not_false, Bool.or_true, Bool.true_or, Bool.or_false, Bool.false_or, Bool.and_self, ite_true, ite_false, decide_true, decide_false, reduceIte, Int.reduceLT, Int.reduceLE, Int.reduceNeg, Int.reducePow, Int.reduceEq, and_self, and_true, true_and, dec_str, prop_str, leq_cc, leq_nn, leq_nc, leq_cn, at_0, at_1, at_2, at_3, at_4, at_5, at_6, at_m1, cut_1, cut_2, cut_3, isE_c, isE_n, isiT_t, Int.reduceBEq, beq_self_eq_true, cst_0, cst_1, cst_2, cst_3, cst_4, cst_5, cst_6, cst_7, cst_8, cst_9, fl_s, fl_i, fl_b, fl_n, fl_t, List.all_cons, List.all_nil, List.any_cons, List.any_nil, Nat.reduceBEq, bl2, bl3, bl4, bl5, x_draw gf__law_draw k1, n0]
  · by_cases hl0 : l = 0
    · exact word (.inr (.inl ⟨rfl, hl0⟩))
    have hl1 : 0 < l := by omega
    obtain ⟨wj, rj⟩ := ri_opj (i := dr xs n 2) (a := a) (b := dr xs (n + 1) l) (ld (by omega)) (hd (by omega))
    refine ⟨_, _, n + 1 + 1, [.lst [.int a, .int b, .int c, .int d], .lst ops2j], by omega, by omega, rj, ?_⟩
    simp only [rowS, b__law_row, List.drop_succ_cons, List.drop_zero, v_dcomp, v_gget, v_gin, v_gix2, i_enuE, i_zipE, lstC_f, ixC_f, m_extendT, ok_dcomp, ok_gget, ok_gin, ok_gix2, pt_dcomp, pt_gget, pt_gin, pt_gix2, x_bind, x_bindS, x_seq, x_seqR, x_seqB, x_seqC, x_nil, x_cons, x_asg, x_setx, x_aug, x_exp, x_ret, x_retn, x_iff, x_forr, x_brk, x_cont, x_pass, v_var, v_con, v_glo, v_gix, v_tup, v_lst, v_dis, v_bin, v_neg, v_cmp, v_cmp2, v_not, v_and, v_or, v_ite, v_call, v_blt, v_mth, v_ix, v_sl, v_comp, es_nil, es_cons, es_star, p_nop, p_e, i_rng, i_e, cs_nil, cs_cons, tt_e, tt_cmp, tt_cmp2, tt_not, tt_and, tt_or, tt_ite, valO_some, ofO_some, noE_ok, fin_rt, fin_nx, bl_tt, bl_ff, bl_tf, bl_ft, asgT, asgTs, wipeR, lst_C, dic_C, lstC_l, lstC_d, dicC_l, dicC_d, d_addI, d_addS, d_addT, d_addL, d_sub, d_mul, d_fdiv, d_mod, d_augI, d_augSub, d_augL, c_eqI, c_eqS, c_neI, c_neS, c_lt, c_le, c_gt, c_ge, c_isn, c_isnn, c_isb, c_isnb, c_in, c_nin, in_tup, in_dic, eqF_S, eqF_I, tr_non, tr_bl, tr_int, tr_str, tr_tup, tr_rol, truC_l, truC_d, tr_cell, isi_non, isi_bl, isi_int, isi_str, isi_tup, isi_rol, isiC_l, isiC_d, isi_cell, isiT, isNonD, isBlD, ix_tup, ix_rol, ixC_l, ixC_d, ix_cell, sl_tup, sl_rol, sl_cell, setC_l, setC_d, set_cell, key_i, key_s, part_i, star_tup, star_rol, star_cell, it_tup, it_rol, it_cell, b_lenT, b_lenR, b_lenS, lenC_l, lenC_d, b_lenC, b_intI, b_intB, b_tupT, b_tupR, b_tupC, b_lstT, b_lstR, b_lstC, b_dict, b_isi, mo_join, mo_get, mo_append, mo_extend, mo_pop, mo_index, isStr_s, m_append, m_extend, m_pop, m_index, m_joinC, m_get1, m_get2, catL_ok, augL_ok, dicL_ok, appL_ok, extL_ok, capT_ok, capL_ok, le_big, lt_big, ok_var, ok_con, ok_glo, ok_gix, ok_tup, ok_lst, ok_dis, ok_bin, ok_neg, ok_cmp, ok_cmp2, ok_not, ok_and, ok_or, ok_ite, ok_call, ok_blt, ok_mth, ok_ix, ok_sl, ok_comp, pt_var, pt_con, pt_glo, pt_tup, pt_lst, pt_bin, pt_call, pt_blt, pt_mth, pt_ix, pt_sl, pt_comp, List.getElem?_cons_zero, List.getElem?_cons_succ, List.set_cons_zero, List.set_cons_succ, List.map_cons, List.map_nil, List.replicate_succ, List.replicate_zero, List.cons_append, List.nil_append, List.length_cons, List.length_nil, List.append_nil, Option.bind_some, Option.bind_none, Option.map_some, Option.map_none, Option.isSome_some, Option.isSome_none, Nat.reduceAdd, Nat.reduceSub, Nat.reduceLeDiff, Nat.reduceEqDiff, Nat.reduceLT, if_true, if_false, Bool.false_eq_true, Bool.and_true, Bool.true_and, Bool.and_false, Bool.false_and, Bool.not_true, Bool.not_false, Bool.or_true, Bool.true_or, Bool.or_false, Bool.false_or, Bool.and_self, ite_true, ite_false, decide_true, decide_false, reduceIte, Int.reduceLT, Int.reduceLE, Int.reduceNeg, Int.reducePow, Int.reduceEq, and_self, and_true, true_and, dec_str, prop_str, leq_cc, leq_nn, leq_nc, leq_cn, at_0, at_1, at_2, at_3, at_4, at_5, at_6, at_m1, cut_1, cut_2, cut_3, isE_c, isE_n, isiT_t, Int.reduceBEq, beq_self_eq_true, cst_0, cst_1, cst_2, cst_3, cst_4, cst_5, cst_6, cst_7, cst_8, cst_9, fl_s, fl_i, fl_b, fl_n, fl_t, List.all_cons, List.all_nil, List.any_cons, List.any_nil, Nat.reduceBEq, bl2, bl3, bl4, bl5, x_draw gf__law_draw k1, n0, n1, hl1, gj, ops2j]
  · exact word (.inr (.inr rfl))
end
end Lk02

namespace Lk02
open PySem J
open L2 (Key atI)
section
variable {k : Nat} (hk : 5 ≤ k) {xs : List Int} {n : Nat} (hn : n < 100000000) {l s : Int}
include hk hn
theorem row0_ok : exS (callP (runF PG k)) PG.con rowS0 [some (.cell 0), some (.int l), some (.int s), none, none, none] [boxC 1 n, digC xs] = .ok (.nx [some (.cell 0), some (.int l), some (.int s), some (.cell 2), some (.int (dr xs (n + 4) 12)), none]) [boxC 1 (n + 5), digC xs, .lst [.int (dr xs n 8), .int (dr xs (n + 1) 8), .int (dr xs (n + 2) 8), .int (dr xs (n + 3) 8)]] := by
  have k1 : 1 ≤ k := by omega
  have n0 : n < 1000000000000 := by omega
  have n1 : n + 1 < 1000000000000 := by omega
  have n2 : n + 1 + 1 < 1000000000000 := by omega
  have n3 : n + 1 + 1 + 1 < 1000000000000 := by omega
  have n4 : n + 1 + 1 + 1 + 1 < 1000000000000 := by omega
  have r4 : rngI ([boxC 1 n, digC xs] : Mem) [.int 4] = .ok ([], [.int 0, .int 1, .int 2, .int 3]) [boxC 1 n, digC xs] := rfl
  have l0 : (0 : Nat) < big := lt_big (by decide)
  have l1 : (1 : Nat) < big := lt_big (by decide)
  have l2 : (2 : Nat) < big := lt_big (by decide)
  have l3 : (3 : Nat) < big := lt_big (by decide)
  have ck : ∀ M : Mem, chk M [] = true := fun _ => rfl
  simp only [rowS0, b__law_row, List.headD_cons, v_dcomp, v_gget, v_gin, v_gix2, i_enuE, i_zipE, lstC_f, ixC_f, m_extendT, ok_dcomp, ok_gget, ok_gin, ok_gix2, pt_dcomp, pt_gget, pt_gin, pt_gix2, x_bind, x_bindS, x_seq, x_seqR, x_seqB, x_seqC, x_nil, x_cons, x_asg, x_setx, x_aug, x_exp, x_ret, x_retn, x_iff, x_forr, x_brk, x_cont, x_pass, v_var, v_con, v_glo, v_gix, v_tup, v_lst, v_dis, v_bin, v_neg, v_cmp, v_cmp2, v_not, v_and, v_or, v_ite, v_call, v_blt, v_mth, v_ix, v_sl, v_comp, es_nil, es_cons, es_star, p_nop, p_e, i_rng, i_e, cs_nil, cs_cons, tt_e, tt_cmp, tt_cmp2, tt_not, tt_and, tt_or, tt_ite, valO_some, ofO_some, noE_ok, fin_rt, fin_nx, bl_tt, bl_ff, bl_tf, bl_ft, asgT, asgTs, wipeR, lst_C, dic_C, lstC_l, lstC_d, dicC_l, dicC_d, d_addI, d_addS, d_addT, d_addL, d_sub, d_mul, d_fdiv, d_mod, d_augI, d_augSub, d_augL, c_eqI, c_eqS, c_neI, c_neS, c_lt, c_le, c_gt, c_ge, c_isn, c_isnn, c_isb, c_isnb, c_in, c_nin, in_tup, in_dic, eqF_S, eqF_I, tr_non, tr_bl, tr_int, tr_str, tr_tup, tr_rol, truC_l, truC_d, tr_cell, isi_non, isi_bl, isi_int, isi_str, isi_tup, isi_rol, isiC_l, isiC_d, isi_cell, isiT, isNonD, isBlD, ix_tup, ix_rol, ixC_l, ixC_d, ix_cell, sl_tup, sl_rol, sl_cell, setC_l, setC_d, set_cell, key_i, key_s, part_i, star_tup, star_rol, star_cell, it_tup, it_rol, it_cell, b_lenT, b_lenR, b_lenS, lenC_l, lenC_d, b_lenC, b_intI, b_intB, b_tupT, b_tupR, b_tupC, b_lstT, b_lstR, b_lstC, b_dict, b_isi, mo_join, mo_get, mo_append, mo_extend, mo_pop, mo_index, isStr_s, m_append, m_extend, m_pop, m_index, m_joinC, m_get1, m_get2, catL_ok, augL_ok, dicL_ok, appL_ok, extL_ok, capT_ok, capL_ok, le_big, lt_big, ok_var, ok_con, ok_glo, ok_gix, ok_tup, ok_lst, ok_dis, ok_bin, ok_neg, ok_cmp, ok_cmp2, ok_not, ok_and, ok_or, ok_ite, ok_call, ok_blt, ok_mth, ok_ix, ok_sl, ok_comp, pt_var, pt_con, pt_glo, pt_tup, pt_lst, pt_bin, pt_call, pt_blt, pt_mth, pt_ix, pt_sl, pt_comp, List.getElem?_cons_zero, List.getElem?_cons_succ, List.set_cons_zero, List.set_cons_succ, List.map_cons, List.map_nil, List.replicate_succ, List.replicate_zero, List.cons_append, List.nil_append, List.length_cons, List.length_nil, List.append_nil, Option.bind_some, Option.bind_none, Option.map_some, Option.map_none, Option.isSome_some, Option.isSome_none, Nat.reduceAdd, Nat.reduceSub, Nat.reduceLeDiff, Nat.reduceEqDiff, Nat.reduceLT, if_true, if_false, Bool.false_eq_true, Bool.and_true, Bool.true_and, Bool.and_false, Bool.false_and, Bool.not_true, Bool.not_false, Bool.or_true, Bool.true_or, Bool.or_false, Bool.false_or, Bool.and_self, ite_true, ite_false, decide_true, decide_false, reduceIte, Int.reduceLT, Int.reduceLE, Int.reduceNeg, Int.reducePow, Int.reduceEq, and_self, and_true, true_and, dec_str, prop_str, leq_cc, leq_nn, leq_nc, leq_cn, at_0, at_1, at_2, at_3, at_4, at_5, at_6, at_m1, cut_1, cut_2, cut_3, isE_c, isE_n, isiT_t, Int.reduceBEq, beq_self_eq_true, cst_0, cst_1, cst_2, cst_3, cst_4, cst_5, cst_6, cst_7, cst_8, cst_9, fl_s, fl_i, fl_b, fl_n, fl_t, List.all_cons, List.all_nil, List.any_cons, List.any_nil, Nat.reduceBEq, r4, compL, ck, x_draw gf__law_draw k1, n0, n1, n2, n3, n4, l0, l1, l2, l3, bl2]
theorem run_row (hl : 0 ≤ l) (hs : 0 ≤ s) : ∃ row ws n' g, n ≤ n' ∧ n' ≤ n + 8 ∧ RI row ws none ∧ runF PG (k + 1) 20 [.cell 0, .int l, .int s] [boxC 1 n, digC xs] = .ok row (boxC 1 n' :: digC xs :: g) := by
  obtain ⟨row, ws, n', g, h1, h2, h3, h4⟩ := rest_ok hk (xs := xs) (n := n + 5) (by omega) (l := l) (s := s) (a := dr xs n 8) (b := dr xs (n + 1) 8) (c := dr xs (n + 2) 8) (d := dr xs (n + 3) 8) hl hs (sort := dr xs (n + 4) 12) (dr_lo (by omega)) (dr_hi (by omega))
  refine ⟨row, ws, n', g, by omega, by omega, h3, ?_⟩
  rw [run_of gf__law_row rfl, row_body]
  show fin (exSs (callP (runF PG k)) PG.con (rowS0 :: rowS) [some (.cell 0), some (.int l), some (.int s), none, none, none] [boxC 1 n, digC xs]) = _
  rw [x_cons, row0_ok hk hn, x_seq]
  exact h4
end
/-- a row that is drawn -/
theorem row_call {k : Nat} (hk : 6 ≤ k) {xs : List Int} {n : Nat} (hn : n < 100000000) {l s : Int} (hl : 0 ≤ l) (hs : 0 ≤ s) : ∃ row ws n', n ≤ n' ∧ n' ≤ n + 8 ∧ RI row ws none ∧ ∀ (g : Mem), callP (runF PG k) 20 [.cell 0, .int l, .int s] (boxC 1 n :: digC xs :: g) = .ok row (boxC 1 n' :: digC xs :: g) := by
  obtain ⟨j, rfl, hj⟩ := k_succ hk
  obtain ⟨row, ws, n', g', h1, h2, h3, h4⟩ := run_row hj (xs := xs) hn hl hs
  exact ⟨row, ws, n', h1, h2, h3, fun g => callP_box (b := 0) (d := 1) rfl rfl rfl h4 h3.pure⟩
end Lk02

namespace J
theorem forL_step {asg : D → Rho → Option Rho} {body : Rho → Mem → R F} {srcs : List (Nat × Cell)} {d : D} {r : List D} {ρ ρ1 ρ2 : Rho} {M M2 : Mem} (hc : chk M srcs = true) (h1 : asg d ρ = some ρ1) (h2 : body ρ1 M = .ok (.nx ρ2) M2) : forL asg body srcs (d :: r) ρ M = forL asg body srcs r ρ2 M2 := by
  simp only [forL, hc, if_true, h1, h2]
theorem forL_end {asg : D → Rho → Option Rho} {body : Rho → Mem → R F} {srcs : List (Nat × Cell)} {ρ : Rho} {M : Mem} (hc : chk M srcs = true) : forL asg body srcs [] ρ M = .ok (.nx ρ) M := by
  simp only [forL, hc, if_true]
theorem get_new {g : Mem} {c : Cell} : (g ++ [c])[g.length]? = some c := by simp
theorem get_old {g t : Mem} {c : Cell} {r : Nat} (h : g[r]? = some c) : (g ++ t)[r]? = some c := by
  rw [List.getElem?_append_left (List.getElem?_eq_some_iff.mp h).1]
  exact h
theorem get_set {g : Mem} {c c' : Cell} {r : Nat} (h : g[r]? = some c) : (g.set r c')[r]? = some c' := List.getElem?_set_self (List.getElem?_eq_some_iff.mp h).1
theorem set_old {g t : Mem} {c c' : Cell} {r : Nat} (h : g[r]? = some c) : (g ++ t).set r c' = g.set r c' ++ t := by
  rw [List.set_append_left]
  exact (List.getElem?_eq_some_iff.mp h).1
theorem set_self {g : Mem} {c : Cell} {r : Nat} (h : g[r]? = some c) : g.set r c = g := by
  refine List.ext_getElem? fun i => ?_
  by_cases e : i = r
  · subst e
    rw [List.getElem?_set_self (List.getElem?_eq_some_iff.mp h).1, h]
  · rw [List.getElem?_set_ne (fun z => e z.symm)]
theorem app_a {g : Mem} {c d : Cell} : g ++ [c] ++ [d] = g ++ [c, d] := by simp
end J
namespace Lk02
open PySem J
open L2 (Key atI)
/-- rows -/
def Rows (rs : List D) : Prop := ∀ d ∈ rs, ∃ ws lab, RI d ws lab
theorem Rows.nil : Rows [] := fun d h => by cases h
theorem Rows.app {a b : List D} (h : Rows a) (h' : Rows b) : Rows (a ++ b) := fun d hd => by
  rcases List.mem_append.mp hd with z | z
  · exact h d z
  · exact h' d z
theorem Rows.one {d : D} {ws : List D} {lab : Option Int} (h : RI d ws lab) : Rows [d] := fun e he => by
  rw [List.mem_singleton.mp he]; exact ⟨ws, lab, h⟩
theorem Rows.pure : ∀ {rs : List D}, Rows rs → D.pures rs = true
  | [], _ => rfl
  | d :: r, h => by
    obtain ⟨ws, lab, q⟩ := h d List.mem_cons_self
    simp only [D.pures, q.pure, Rows.pure fun e he => h e (List.mem_cons_of_mem _ he), Bool.and_self]
theorem ck0 {M : Mem} : chk M [] = true := rfl
section
variable {k : Nat} (hk : 6 ≤ k) {xs : List Int}
include hk
/-- rows (z, count, draw) -/
theorem comp_w {z : Str} {m : Int} (hm : 0 < m) (hR : ∀ a b : Int, ∃ ws, RI (.tup [.str z, .int a, .int b]) ws none) {c1 c2 c3 c4 c5 c6 c7 c8 c9 c10 c11 c12 : Option D} : ∀ (cnt : Nat) (lo : Int) (acc : List D) (n : Nat) (g : Mem), acc.length + cnt ≤ 100 → n + cnt < 100000000 → ∃ new, Rows new ∧ new.length = cnt ∧
    compL (fun d => asgT (.nm 9) d (wipeR [some (.cell 0), c1, c2, c3, c4, c5, c6, c7, c8, c9, c10, c11, c12] [9])) (evCs (callP (runF PG k)) PG.con []) (evE (callP (runF PG k)) PG.con (.tup [.con (.str z), .var 9, .call 1 [.var 0, .con (.int m)]])) [] (rngD lo cnt) acc (boxC 1 n :: digC xs :: g) = .ok (acc ++ new) (boxC 1 (n + cnt) :: digC xs :: g)
  | 0, lo, acc, n, g, _, _ => ⟨[], Rows.nil, rfl, by simp only [rngD, compL, ck0, if_true, List.append_nil, Nat.add_zero]⟩
  | cnt + 1, lo, acc, n, g, hl, hn => by
    have k1 : 1 ≤ k := by omega
    have n0 : n < 1000000000000 := by omega
    have bb : acc.length < big := lt_big (by omega)
    obtain ⟨ws, h1⟩ := hR lo (dr xs n m)
    obtain ⟨new, h2, h3, h4⟩ := comp_w (c1 := c1) (c2 := c2) (c3 := c3) (c4 := c4) (c5 := c5) (c6 := c6) (c7 := c7) (c8 := c8) (c9 := c9) (c10 := c10) (c11 := c11) (c12 := c12) hm hR cnt (lo + 1) (acc ++ [.tup [.str z, .int lo, .int (dr xs n m)]]) (n + 1) g (by simp; omega) (by omega)
    refine ⟨.tup [.str z, .int lo, .int (dr xs n m)] :: new, (Rows.one h1).app h2, by simp [h3], ?_⟩
    rw [show n + (cnt + 1) = n + 1 + cnt by omega]
    rw [List.append_cons]
    rw [← h4]
    simp only [rngD, compL, ck0, v_dcomp, v_gget, v_gin, v_gix2, i_enuE, i_zipE, lstC_f, ixC_f, m_extendT, ok_dcomp, ok_gget, ok_gin, ok_gix2, pt_dcomp, pt_gget, pt_gin, pt_gix2, x_bind, x_bindS, x_seq, x_seqR, x_seqB, x_seqC, x_nil, x_cons, x_asg, x_setx, x_aug, x_exp, x_ret, x_retn, x_iff, x_forr, x_brk, x_cont, x_pass, v_var, v_con, v_glo, v_gix, v_tup, v_lst, v_dis, v_bin, v_neg, v_cmp, v_cmp2, v_not, v_and, v_or, v_ite, v_call, v_blt, v_mth, v_ix, v_sl, v_comp, es_nil, es_cons, es_star, p_nop, p_e, i_rng, i_e, cs_nil, cs_cons, tt_e, tt_cmp, tt_cmp2, tt_not, tt_and, tt_or, tt_ite, valO_some, ofO_some, noE_ok, fin_rt, fin_nx, bl_tt, bl_ff, bl_tf, bl_ft, asgT, asgTs, wipeR, lst_C, dic_C, lstC_l, lstC_d, dicC_l, dicC_d, d_addI, d_addS, d_addT, d_addL, d_sub, d_mul, d_fdiv, d_mod, d_augI, d_augSub, d_augL, c_eqI, c_eqS, c_neI, c_neS, c_lt, c_le, c_gt, c_ge, c_isn, c_isnn, c_isb, c_isnb, c_in, c_nin, in_tup, in_dic, eqF_S, eqF_I, tr_non, tr_bl, tr_int, tr_str, tr_tup, tr_rol, truC_l, truC_d, tr_cell, isi_non, isi_bl, isi_int, isi_str, isi_tup, isi_rol, isiC_l, isiC_d, isi_cell, isiT, isNonD, isBlD, ix_tup, ix_rol, ixC_l, ixC_d, ix_cell, sl_tup, sl_rol, sl_cell, setC_l, setC_d, set_cell, key_i, key_s, part_i, star_tup, star_rol, star_cell, it_tup, it_rol, it_cell, b_lenT, b_lenR, b_lenS, lenC_l, lenC_d, b_lenC, b_intI, b_intB, b_tupT, b_tupR, b_tupC, b_lstT, b_lstR, b_lstC, b_dict, b_isi, mo_join, mo_get, mo_append, mo_extend, mo_pop, mo_index, isStr_s, m_append, m_extend, m_pop, m_index, m_joinC, m_get1, m_get2, catL_ok, augL_ok, dicL_ok, appL_ok, extL_ok, capT_ok, capL_ok, le_big, lt_big, ok_var, ok_con, ok_glo, ok_gix, ok_tup, ok_lst, ok_dis, ok_bin, ok_neg, ok_cmp, ok_cmp2, ok_not, ok_and, ok_or, ok_ite, ok_call, ok_blt, ok_mth, ok_ix, ok_sl, ok_comp, pt_var, pt_con, pt_glo, pt_tup, pt_lst, pt_bin, pt_call, pt_blt, pt_mth, pt_ix, pt_sl, pt_comp, List.getElem?_cons_zero, List.getElem?_cons_succ, List.set_cons_zero, List.set_cons_succ, List.map_cons, List.map_nil, List.replicate_succ, List.replicate_zero, List.cons_append, List.nil_append, List.length_cons, List.length_nil, List.append_nil, Option.bind_some, Option.bind_none, Option.map_some, Option.map_none, Option.isSome_some, Option.isSome_none, Nat.reduceAdd, Nat.reduceSub, Nat.reduceLeDiff, Nat.reduceEqDiff, Nat.reduceLT, if_true, if_false, Bool.false_eq_true, Bool.and_true, Bool.true_and, Bool.and_false, Bool.false_and, Bool.not_true, Bool.not_false, Bool.or_true, Bool.true_or, Bool.or_false, Bool.false_or, Bool.and_self, ite_true, ite_false, decide_true, decide_false, reduceIte, Int.reduceLT, Int.reduceLE, Int.reduceNeg, Int.reducePow, Int.reduceEq, and_self, and_true, true_and, x_draw gf__law_draw k1, n0, hm, bb, bl3]
end
def afFor : List S := match b__law_asm_function.body with
  | _ :: _ :: .forr _ _ b :: _ => b
  | _ => []
def afA : S := afFor.headD .pass
def afB : S := (afFor.drop 1).headD .pass
def afC : S := (afFor.drop 2).headD .pass
def af0 : S := b__law_asm_function.body.headD .pass
def af1 : S := (b__law_asm_function.body.drop 1).headD .pass
def af2 : S := .forr (.nm 6) (.rng [(.bin .add (.var 7) (.con (.int 1)))]) afFor
def af3 : S := (b__law_asm_function.body.drop 3).headD .pass
def af4 : S := (b__law_asm_function.body.drop 4).headD .pass
theorem af_body : b__law_asm_function.body = [af0, af1, af2, af3, af4] := rfl
theorem af_for : afFor = [afA, afB, afC] := rfl
theorem wordR (a b : Int) : ∃ ws, RI (.tup [.str z_word, .int a, .int b]) ws none := ⟨_, ri_word⟩
theorem putR (a b : Int) : ∃ ws, RI (.tup [.str z_put, .int a, .int b]) ws none := ⟨_, ri_put⟩
section
variable {k : Nat} (hk : 6 ≤ k) {xs : List Int} {cl : List D} {n : Nat} (hn : n < 10000000) {c1 c2 c3 c6 c9 c10 c11 c12 : Option D} {l s : Int} (hl : 0 ≤ l) (hl2 : l < 3) (hs : 0 ≤ s) {g : Mem} {r : Nat} {rs : List D} (hr : g[r]? = some (.lst rs)) (hz : rs.length ≤ 200)
include hk hn hl hs hr hz
theorem afA_ok : ∃ (n' : Nat) (c9' : Option D) (new : List D), n ≤ n' ∧ n' ≤ n + 41 ∧ Rows new ∧ new.length ≤ 4 ∧
    exS (callP (runF PG k)) PG.con afA [some (.cell 0), c1, c2, c3, some (.cell 2), some (.cell (r + 1 + 1 + 1)), c6, some (.int l), some (.int s), c9, c10, c11, c12] (boxC 1 n :: digC xs :: .lst cl :: g) =
      .ok (.nx [some (.cell 0), c1, c2, c3, some (.cell 2), some (.cell (r + 1 + 1 + 1)), c6, some (.int l), some (.int s), c9', c10, c11, c12]) (boxC 1 n' :: digC xs :: .lst cl :: g.set r (.lst (rs ++ new))) := by
  have k1 : 1 ≤ k := by omega
  have n0 : n < 1000000000000 := by omega
  have lo := dr_lo (xs := xs) (at_ := n) (m := 5) (by omega)
  have hi := dr_hi (xs := xs) (at_ := n) (m := 5) (by omega)
  obtain ⟨m, hm⟩ : ∃ m : Nat, dr xs n 5 = (m : Int) := ⟨(dr xs n 5).toNat, by omega⟩
  have hm5 : m < 5 := by omega
  obtain ⟨ρ', M', e1, n', c9', new, e2, e3, h1, h2, h3, h4⟩ := forL_inv (asg := asgT (.nm 9)) (body := exSs (callP (runF PG k)) PG.con [.exp (.mth .append (.var 5) [(.call 20 [(.var 0), (.var 7), (.var 8)])])]) (srcs := [])
    (fun j ρ M => ∃ (n' : Nat) (c9' : Option D) (new : List D), ρ = [some (.cell 0), c1, c2, c3, some (.cell 2), some (.cell (r + 1 + 1 + 1)), c6, some (.int l), some (.int s), c9', c10, c11, c12] ∧ M = boxC 1 n' :: digC xs :: .lst cl :: g.set r (.lst (rs ++ new)) ∧ n + 1 ≤ n' ∧ n' ≤ n + 1 + 8 * j ∧ Rows new ∧ new.length = j)
    (rngD 0 m) 0 [some (.cell 0), c1, c2, c3, some (.cell 2), some (.cell (r + 1 + 1 + 1)), c6, some (.int l), some (.int s), c9, c10, c11, c12] (boxC 1 (n + 1) :: digC xs :: .lst cl :: g)
    ⟨n + 1, c9, [], rfl, by
      rw [List.append_nil]
      congr 3
      exact (set_self hr).symm, by omega, by omega, Rows.nil, rfl⟩ (fun _ _ _ _ => rfl) (by
      rintro j d ρ M hj ⟨n', c9', new, rfl, rfl, h1, h2, h3, h4⟩
      have hjm : j < m := by
        have := (List.getElem?_eq_some_iff.mp hj).1
        rwa [rngD_len] at this
      obtain ⟨row, ws, n2, g1, g2, g3, g4⟩ := row_call hk (xs := xs) (n := n') (by omega) hl hs
      have q1 := get_set (c' := .lst (rs ++ new)) hr
      have bb : (rs ++ new).length < big := lt_big (by simp; omega)
      refine ⟨_, _, _, rfl, .inl ?_, n2, some d, new ++ [row], rfl, rfl, by omega, by omega, h3.app (Rows.one g3), by simp [h4]⟩
      simp only [v_dcomp, v_gget, v_gin, v_gix2, i_enuE, i_zipE, lstC_f, ixC_f, m_extendT, ok_dcomp, ok_gget, ok_gin, ok_gix2, pt_dcomp, pt_gget, pt_gin, pt_gix2, x_bind, x_bindS, x_seq, x_seqR, x_seqB, x_seqC, x_nil, x_cons, x_asg, x_setx, x_aug, x_exp, x_ret, x_retn, x_iff, x_forr, x_brk, x_cont, x_pass, v_var, v_con, v_glo, v_gix, v_tup, v_lst, v_dis, v_bin, v_neg, v_cmp, v_cmp2, v_not, v_and, v_or, v_ite, v_call, v_blt, v_mth, v_ix, v_sl, v_comp, es_nil, es_cons, es_star, p_nop, p_e, i_rng, i_e, cs_nil, cs_cons, tt_e, tt_cmp, tt_cmp2, tt_not, tt_and, tt_or, tt_ite, valO_some, ofO_some, noE_ok, fin_rt, fin_nx, bl_tt, bl_ff, bl_tf, bl_ft, asgT, asgTs, wipeR, lst_C, dic_C, lstC_l, lstC_d, dicC_l, dicC_d, d_addI, d_addS, d_addT, d_addL, d_sub, d_mul, d_fdiv, d_mod, d_augI, d_augSub, d_augL, c_eqI, c_eqS, c_neI, c_neS, c_lt, c_le, c_gt, c_ge, c_isn, c_isnn, c_isb, c_isnb, c_in, c_nin, in_tup, in_dic, eqF_S, eqF_I, tr_non, tr_bl, tr_int, tr_str, tr_tup, tr_rol, truC_l, truC_d, tr_cell, isi_non, isi_bl, isi_int, isi_str, isi_tup, isi_rol, isiC_l, isiC_d, isi_cell, isiT, isNonD, isBlD, ix_tup, ix_rol, ixC_l, ixC_d, ix_cell, sl_tup, sl_rol, sl_cell, setC_l, setC_d, set_cell, key_i, key_s, part_i, star_tup, star_rol, star_cell, it_tup, it_rol, it_cell, b_lenT, b_lenR, b_lenS, lenC_l, lenC_d, b_lenC, b_intI, b_intB, b_tupT, b_tupR, b_tupC, b_lstT, b_lstR, b_lstC, b_dict, b_isi, mo_join, mo_get, mo_append, mo_extend, mo_pop, mo_index, isStr_s, m_append, m_extend, m_pop, m_index, m_joinC, m_get1, m_get2, catL_ok, augL_ok, dicL_ok, appL_ok, extL_ok, capT_ok, capL_ok, le_big, lt_big, ok_var, ok_con, ok_glo, ok_gix, ok_tup, ok_lst, ok_dis, ok_bin, ok_neg, ok_cmp, ok_cmp2, ok_not, ok_and, ok_or, ok_ite, ok_call, ok_blt, ok_mth, ok_ix, ok_sl, ok_comp, pt_var, pt_con, pt_glo, pt_tup, pt_lst, pt_bin, pt_call, pt_blt, pt_mth, pt_ix, pt_sl, pt_comp, List.getElem?_cons_zero, List.getElem?_cons_succ, List.set_cons_zero, List.set_cons_succ, List.map_cons, List.map_nil, List.replicate_succ, List.replicate_zero, List.cons_append, List.nil_append, List.length_cons, List.length_nil, List.append_nil, Option.bind_some, Option.bind_none, Option.map_some, Option.map_none, Option.isSome_some, Option.isSome_none, Nat.reduceAdd, Nat.reduceSub, Nat.reduceLeDiff, Nat.reduceEqDiff, Nat.reduceLT, if_true, if_false, Bool.false_eq_true, Bool.and_true, Bool.true_and, Bool.and_false, Bool.false_and, Bool.not_true, Bool.not_false, Bool.or_true, Bool.true_or, Bool.or_false, Bool.false_or, Bool.and_self, ite_true, ite_false, decide_true, decide_false, reduceIte, Int.reduceLT, Int.reduceLE, Int.reduceNeg, Int.reducePow, Int.reduceEq, and_self, and_true, true_and, q1, g4, bb, List.set_set, List.append_assoc])
  rw [rngD_len] at h2 h4
  refine ⟨n', c9', new, by omega, by omega, h3, by omega, ?_⟩
  rw [e2, e3] at e1
  have r5 : rngI (boxC 1 (n + 1) :: digC xs :: .lst cl :: g) [.int (m : Int)] = .ok ([], rngD 0 m) (boxC 1 (n + 1) :: digC xs :: .lst cl :: g) := by
    have h62 : in62 (m : Int) = true := by simp only [in62, Bool.and_eq_true, decide_eq_true_eq]; omega
    simp only [rngI, h62, if_true, Int.toNat_natCast]
  simp only [afA, afFor, b__law_asm_function, List.headD_cons, x_forr, i_rng, es_cons, es_nil, ok_call, v_call, ok_var, ok_con, v_var, v_con, List.getElem?_cons_zero, List.getElem?_cons_succ, x_bind, x_bindS, x_draw gf__law_draw k1, n0, hm, r5, Int.reduceLT]
  exact e1
end
end Lk02

namespace Lk02
open PySem J
open L2 (Key atI)
def gE : D := .tup [.str z_nx2eg, .int 1, .int 2]
theorem ne_no {a b : Cell} {g : Mem} : cmpD .ne (.cell 2) (.cell (g.length + 1 + 1 + 1)) (a :: b :: .lst [] :: (g ++ [.lst []])) = some false := by
  simp only [cmpD, eqD, toPM, lst_C, List.getElem?_cons_succ, List.getElem?_cons_zero, get_new, lstC_l, Option.bind_some, D.pures, if_true, toPs]
  rfl
theorem ne_yes {a b : Cell} {g : Mem} : cmpD .ne (.cell 2) (.cell (g.length + 1 + 1 + 1)) (a :: b :: .lst [gE] :: (g ++ [.lst []])) = some true := by
  simp only [cmpD, eqD, toPM, lst_C, List.getElem?_cons_succ, List.getElem?_cons_zero, get_new, lstC_l, Option.bind_some, D.pures, D.pure, gE, Bool.and_self, if_true, toPs, toP]
  kernel_rfl
section
variable {k : Nat} (hk : 6 ≤ k) {xs : List Int} {n : Nat} (hn : n < 10000000) {c1 c2 c3 c6 c9 c10 c11 c12 : Option D} {l s : Int} {g : Mem} {r : Nat} {rs : List D} (hr : g[r]? = some (.lst rs)) (hR : Rows rs) (hz : rs.length ≤ 90)
include hk hn hr hR hz
theorem afB_ok {cl : List D} (hcl : cl = [] ∨ cl = [gE]) : ∃ (n' : Nat) (c10' c11' c12' : Option D) (r' : Nat) (g' : Mem) (rs' : List D), n ≤ n' ∧ n' ≤ n + 8 ∧ g'[r']? = some (.lst rs') ∧ Rows rs' ∧ rs'.length ≤ rs.length + 7 ∧
    exS (callP (runF PG k)) PG.con afB [some (.cell 0), c1, c2, c3, some (.cell 2), some (.cell (r + 1 + 1 + 1)), c6, some (.int l), some (.int s), c9, c10, c11, c12] (boxC 1 n :: digC xs :: .lst cl :: g) =
      .ok (.nx [some (.cell 0), c1, c2, c3, some (.cell 2), some (.cell (r' + 1 + 1 + 1)), c6, some (.int l), some (.int s), c9, c10', c11', c12']) (boxC 1 n' :: digC xs :: .lst cl :: g') := by
  have k1 : 1 ≤ k := by omega
  have k2 : 2 ≤ k := by omega
  have n0 : n < 1000000000000 := by omega
  rcases hcl with rfl | rfl
  · refine ⟨n, c10, c11, c12, r, g ++ [.lst []], rs, by omega, by omega, get_old hr, hR, by omega, ?_⟩
    simp only [afB, afFor, b__law_asm_function, List.headD_cons, List.drop_succ_cons, List.drop_zero, x_iff, tt_and, tt_cmp, v_var, v_lst, es_nil, List.getElem?_cons_zero, List.getElem?_cons_succ, x_bind, capL_ok, bl0, List.length_nil, List.cons_append, List.length_cons, ne_no, valO_some, Bool.false_eq_true, if_false, x_bindS, x_nil]
  · have lo := dr_lo (xs := xs) (at_ := n) (m := 3) (by omega)
    by_cases hd : dr xs n 3 = 0
    · have p1 : gt [gE] (dr xs (n + 1) 1) = gE := by
        have a1 := dr_lo (xs := xs) (at_ := n + 1) (m := 1) (by omega)
        have a2 := dr_hi (xs := xs) (at_ := n + 1) (m := 1) (by omega)
        have : dr xs (n + 1) 1 = 0 := by omega
        rw [this]
        rfl
      have pk : ∀ g' : Mem, callP (runF PG k) 2 [.cell 0, .cell 2] (boxC 1 (n + 1) :: digC xs :: .lst [gE] :: g') = .ok gE (boxC 1 (n + 1 + 1) :: digC xs :: .lst [gE] :: g') := fun g' => by
        rw [x_pick gf__law_draw gf__law_pick k2 (by omega) (t := 0) (ds := [gE]) (g := .lst [gE] :: g') (by simp) (by simp [D.pures, D.pure, gE]) rfl]
        show R.ok (gt [gE] (dr xs (n + 1) 1)) _ = _
        rw [p1]
      have b1 : rs.length + 1 ≤ big := le_big (by omega)
      obtain ⟨new, w1, w2, w3⟩ := comp_w hk (xs := xs) (z := z_word) (m := 5) (by omega) wordR (c1 := c1) (c2 := c2) (c3 := c3) (c4 := some (.cell 2)) (c5 := some (.cell (r + 1 + 1 + 1))) (c6 := c6) (c7 := some (.int l)) (c8 := some (.int s)) (c9 := c9) (c10 := some (.str z_nx2eg)) (c11 := some (.int 1)) (c12 := some (.int 2)) 6 2 [] (n + 1 + 1)
        (.lst [gE] :: (g ++ [.lst []] ++ [.lst [.tup [.str z_call, .str z_nx2eg]]] ++ [.lst (rs ++ [.tup [.str z_call, .str z_nx2eg]])])) (by simp) (by omega)
      have q1 : (g ++ [Cell.lst []] ++ [.lst [.tup [.str z_call, .str z_nx2eg]]])[r]? = some (.lst rs) := get_old (get_old hr)
      have b2 : rs.length + 1 + 6 ≤ big := le_big (by omega)
      have e6 : rngI (boxC 1 (n + 1 + 1) :: digC xs :: .lst [gE] :: (g ++ [.lst []] ++ [.lst [.tup [.str z_call, .str z_nx2eg]]] ++ [.lst (rs ++ [.tup [.str z_call, .str z_nx2eg]])])) [.int 2, .int 8] = .ok ([], rngD 2 6) (boxC 1 (n + 1 + 1) :: digC xs :: .lst [gE] :: (g ++ [.lst []] ++ [.lst [.tup [.str z_call, .str z_nx2eg]]] ++ [.lst (rs ++ [.tup [.str z_call, .str z_nx2eg]])])) := rfl
      have q2 : (g ++ [Cell.lst []] ++ [.lst [.tup [.str z_call, .str z_nx2eg]]] ++ [.lst (rs ++ [.tup [.str z_call, .str z_nx2eg]])] ++ [.lst new])[(g ++ [Cell.lst []] ++ [Cell.lst [D.tup [.str z_call, .str z_nx2eg]]]).length]? = some (.lst (rs ++ [.tup [.str z_call, .str z_nx2eg]])) := get_old get_new
      refine ⟨n + 1 + 1 + 6, some (.str z_nx2eg), some (.int 1), some (.int 2), (g ++ [Cell.lst []] ++ [Cell.lst [D.tup [.str z_call, .str z_nx2eg]]] ++ [Cell.lst (rs ++ [D.tup [.str z_call, .str z_nx2eg]])] ++ [Cell.lst new]).length, g ++ [Cell.lst []] ++ [.lst [.tup [.str z_call, .str z_nx2eg]]] ++ [.lst (rs ++ [.tup [.str z_call, .str z_nx2eg]])] ++ [.lst new] ++ [.lst (rs ++ [.tup [.str z_call, .str z_nx2eg]] ++ new)], rs ++ [.tup [.str z_call, .str z_nx2eg]] ++ new, by omega, by omega, get_new, (hR.app (Rows.one ri_call)).app w1, by simp [w2], ?_⟩
      have b3 : (rs ++ [D.tup [.str z_call, .str z_nx2eg]]).length + new.length ≤ big := by rw [w2]; simpa using b2
      rw [List.nil_append] at w3
      have an5 : ∀ (d : D) (ρ : Rho), asgT (.nm 5) d ρ = some (ρ.set 5 (some d)) := fun _ _ => rfl
      have ge : ∀ ρ : Rho, asgT (.tp [.nm 10, .nm 11, .nm 12]) gE ρ = some (((ρ.set 10 (some (.str z_nx2eg))).set 11 (some (.int 1))).set 12 (some (.int 2))) := fun ρ => rfl
      simp only [afB, afFor, b__law_asm_function, List.headD_cons, List.drop_succ_cons, List.drop_zero, x_iff, tt_and, tt_cmp, v_var, v_lst, es_nil, es_cons, ok_call, ok_var, ok_con, ok_tup, v_call, v_con, v_tup, List.getElem?_cons_zero, List.getElem?_cons_succ, x_bind, capL_ok, capT_ok, bl0, bl1, bl2, List.length_nil, List.cons_append, List.length_cons, ne_yes, valO_some, if_true, x_bindS, x_nil, x_draw gf__law_draw k1, n0, hd, c_eqI, beq_self_eq_true, Int.reduceLT, x_cons, x_asg, pk, ge, List.set_cons_succ, List.set_cons_zero, x_seq,
        v_bin, d_addL, lst_C, q1, get_new, lstC_l, Option.bind_some, catL_ok, b1, ofO_some, v_comp, i_rng, e6, w3, noE_ok, q2, b3, an5, Nat.reduceAdd]
    · have hd' : (dr xs n 3 == 0) = false := by simpa using hd
      refine ⟨n + 1, c10, c11, c12, r, g ++ [.lst []], rs, by omega, by omega, get_old hr, hR, by omega, ?_⟩
      simp only [afB, afFor, b__law_asm_function, List.headD_cons, List.drop_succ_cons, List.drop_zero, x_iff, tt_and, tt_cmp, v_var, v_lst, es_nil, es_cons, ok_call, ok_var, ok_con, v_call, v_con, List.getElem?_cons_zero, List.getElem?_cons_succ, x_bind, capL_ok, bl0, List.length_nil, List.cons_append, List.length_cons, ne_yes, valO_some, Bool.false_eq_true, if_false, if_true, x_bindS, x_nil, x_draw gf__law_draw k1, n0, hd', c_eqI, Int.reduceLT]
end
end Lk02

namespace Lk02
open PySem J
open L2 (Key atI)
section
variable {k : Nat} (hk : 6 ≤ k) {xs : List Int} {n : Nat} (hn : n < 10000000) {c1 c2 c3 c9 c10 c11 c12 : Option D} {l s i : Int} {g : Mem} {r : Nat} {rs : List D} (hr : g[r]? = some (.lst rs)) (hR : Rows rs) (hz : rs.length ≤ 90) (hi : 0 ≤ i)
include hk hn hr hR hz hi
theorem afC_ok {cl : List D} : ∃ (n' : Nat) (r' : Nat) (g' : Mem) (rs' : List D), n ≤ n' ∧ n' ≤ n + 2 ∧ g'[r']? = some (.lst rs') ∧ Rows rs' ∧ rs'.length ≤ rs.length + 2 ∧
    exS (callP (runF PG k)) PG.con afC [some (.cell 0), c1, c2, c3, some (.cell 2), some (.cell (r + 1 + 1 + 1)), some (.int i), some (.int l), some (.int s), c9, c10, c11, c12] (boxC 1 n :: digC xs :: .lst cl :: g) =
      .ok (.nx [some (.cell 0), c1, c2, c3, some (.cell 2), some (.cell (r' + 1 + 1 + 1)), some (.int i), some (.int l), some (.int s), c9, c10, c11, c12]) (boxC 1 n' :: digC xs :: .lst cl :: g') := by
  have k1 : 1 ≤ k := by omega
  have n0 : n < 1000000000000 := by omega
  have n1 : n + 1 < 1000000000000 := by omega
  have b0 : rs.length + 0 ≤ big := le_big (by omega)
  have b1 : rs.length + 1 ≤ big := le_big (by omega)
  have an5 : ∀ (d : D) (ρ : Rho), asgT (.nm 5) d ρ = some (ρ.set 5 (some d)) := fun _ _ => rfl
  by_cases hil : i < l
  · have hl : 0 < l := by omega
    by_cases hd : dr xs n 4 = 0
    · have b2 : (rs ++ [D.tup [.str z_go, .int (dr xs (n + 1) l)]]).length + 1 ≤ big := le_big (by simp; omega)
      have q1 : (g ++ [Cell.lst [.tup [.str z_go, .int (dr xs (n + 1) l)]]])[r]? = some (.lst rs) := get_old hr
      have q2 : (g ++ [Cell.lst [.tup [.str z_go, .int (dr xs (n + 1) l)]]] ++ [.lst (rs ++ [.tup [.str z_go, .int (dr xs (n + 1) l)]])] ++ [.lst [.tup [.str z_label, .int i]]])[(g ++ [Cell.lst [D.tup [.str z_go, .int (dr xs (n + 1) l)]]]).length]? = some (.lst (rs ++ [.tup [.str z_go, .int (dr xs (n + 1) l)]])) := get_old get_new
      refine ⟨n + 1 + 1, (g ++ [Cell.lst [D.tup [.str z_go, .int (dr xs (n + 1) l)]]] ++ [Cell.lst (rs ++ [D.tup [.str z_go, .int (dr xs (n + 1) l)]])] ++ [Cell.lst [D.tup [.str z_label, .int i]]]).length, g ++ [Cell.lst [.tup [.str z_go, .int (dr xs (n + 1) l)]]] ++ [.lst (rs ++ [.tup [.str z_go, .int (dr xs (n + 1) l)]])] ++ [.lst [.tup [.str z_label, .int i]]] ++ [.lst (rs ++ [.tup [.str z_go, .int (dr xs (n + 1) l)]] ++ [.tup [.str z_label, .int i]])], rs ++ [.tup [.str z_go, .int (dr xs (n + 1) l)]] ++ [.tup [.str z_label, .int i]], by omega, by omega, get_new, (hR.app (Rows.one ri_go)).app (Rows.one ri_label), by simp, ?_⟩
      simp only [afC, afFor, b__law_asm_function, List.headD_cons, List.drop_succ_cons, List.drop_zero, x_iff, tt_cmp, v_var, v_lst, es_nil, es_cons, ok_call, ok_var, ok_con, ok_tup, v_call, v_con, v_tup, v_ite, List.getElem?_cons_zero, List.getElem?_cons_succ, x_bind, capL_ok, capT_ok, bl0, bl1, bl2, List.length_nil, List.cons_append, List.length_cons, valO_some, if_true, x_bindS, x_nil, x_draw gf__law_draw k1, n0, n1, hd, hl, hil, decide_true, c_lt, c_eqI, beq_self_eq_true, Int.reduceLT, x_cons, x_asg, List.set_cons_succ, List.set_cons_zero, x_seq,
        v_bin, d_addL, lst_C, q1, get_new, lstC_l, Option.bind_some, catL_ok, b1, b2, ofO_some, q2, an5, Nat.reduceAdd]
    · have hd' : (dr xs n 4 == 0) = false := by simpa using hd
      have b2 : (rs ++ ([] : List D)).length + 1 ≤ big := le_big (by simp; omega)
      have q1 : (g ++ [Cell.lst []])[r]? = some (.lst rs) := get_old hr
      have q2 : (g ++ [Cell.lst []] ++ [.lst (rs ++ [])] ++ [.lst [.tup [.str z_label, .int i]]])[(g ++ [Cell.lst []]).length]? = some (.lst (rs ++ [])) := get_old get_new
      refine ⟨n + 1, (g ++ [Cell.lst []] ++ [Cell.lst (rs ++ [])] ++ [Cell.lst [D.tup [.str z_label, .int i]]]).length, g ++ [Cell.lst []] ++ [.lst (rs ++ [])] ++ [.lst [.tup [.str z_label, .int i]]] ++ [.lst (rs ++ [] ++ [.tup [.str z_label, .int i]])], rs ++ [] ++ [.tup [.str z_label, .int i]], by omega, by omega, get_new, (hR.app Rows.nil).app (Rows.one ri_label), by simp, ?_⟩
      simp only [afC, afFor, b__law_asm_function, List.headD_cons, List.drop_succ_cons, List.drop_zero, x_iff, tt_cmp, v_var, v_lst, es_nil, es_cons, ok_call, ok_var, ok_con, ok_tup, v_call, v_con, v_tup, v_ite, List.getElem?_cons_zero, List.getElem?_cons_succ, x_bind, capL_ok, capT_ok, bl0, bl1, bl2, List.length_nil, List.cons_append, List.length_cons, valO_some, if_true, Bool.false_eq_true, if_false, x_bindS, x_nil, x_draw gf__law_draw k1, n0, n1, hd', hl, hil, decide_true, c_lt, c_eqI, Int.reduceLT, x_cons, x_asg, List.set_cons_succ, List.set_cons_zero, x_seq,
        v_bin, d_addL, lst_C, q1, get_new, lstC_l, Option.bind_some, catL_ok, b0, b1, b2, ofO_some, q2, an5, Nat.reduceAdd]
  · refine ⟨n, r, g, rs, by omega, by omega, hr, hR, by omega, ?_⟩
    simp only [afC, afFor, b__law_asm_function, List.headD_cons, List.drop_succ_cons, List.drop_zero, x_iff, tt_cmp, v_var, List.getElem?_cons_zero, List.getElem?_cons_succ, x_bind, c_lt, hil, decide_false, valO_some, Bool.false_eq_true, if_false, x_bindS, x_nil]
end
/-- one turn -/
theorem turn_ok {k : Nat} (hk : 6 ≤ k) {xs : List Int} {n : Nat} (hn : n < 1000000) {c1 c2 c3 c9 c10 c11 c12 : Option D} {l s i : Int} (hl : 0 ≤ l) (hl2 : l < 3) (hs : 0 ≤ s) {g : Mem} {r : Nat} {rs : List D} (hr : g[r]? = some (.lst rs)) (hR : Rows rs) (hz : rs.length ≤ 60) (hi : 0 ≤ i) {cl : List D} (hcl : cl = [] ∨ cl = [gE]) :
    ∃ (n' : Nat) (c9' c10' c11' c12' : Option D) (r' : Nat) (g' : Mem) (rs' : List D), n ≤ n' ∧ n' ≤ n + 60 ∧ g'[r']? = some (.lst rs') ∧ Rows rs' ∧ rs'.length ≤ rs.length + 13 ∧
    exSs (callP (runF PG k)) PG.con afFor [some (.cell 0), c1, c2, c3, some (.cell 2), some (.cell (r + 1 + 1 + 1)), some (.int i), some (.int l), some (.int s), c9, c10, c11, c12] (boxC 1 n :: digC xs :: .lst cl :: g) =
      .ok (.nx [some (.cell 0), c1, c2, c3, some (.cell 2), some (.cell (r' + 1 + 1 + 1)), some (.int i), some (.int l), some (.int s), c9', c10', c11', c12']) (boxC 1 n' :: digC xs :: .lst cl :: g') := by
  obtain ⟨n1, c91, new, a1, a2, a3, a4, a5⟩ := afA_ok hk (xs := xs) (cl := cl) (n := n) (by omega) (c1 := c1) (c2 := c2) (c3 := c3) (c6 := some (.int i)) (c9 := c9) (c10 := c10) (c11 := c11) (c12 := c12) hl hs hr (by omega)
  obtain ⟨n2, c10', c11', c12', r2, g2, rs2, b1, b2, b3, b4, b5, b6⟩ := afB_ok hk (xs := xs) (n := n1) (by omega) (c1 := c1) (c2 := c2) (c3 := c3) (c6 := some (.int i)) (c9 := c91) (c10 := c10) (c11 := c11) (c12 := c12) (l := l) (s := s) (get_set (c' := .lst (rs ++ new)) hr) (hR.app a3) (by simp; omega) hcl
  obtain ⟨n3, r3, g3, rs3, d1, d2, d3, d4, d5, d6⟩ := afC_ok hk (xs := xs) (n := n2) (by omega) (c1 := c1) (c2 := c2) (c3 := c3) (c9 := c91) (c10 := c10') (c11 := c11') (c12 := c12') (l := l) (s := s) (i := i) b3 b4 (by simp at b5; omega) hi (cl := cl)
  refine ⟨n3, c91, c10', c11', c12', r3, g3, rs3, by omega, by omega, d3, d4, by simp at b5; omega, ?_⟩
  rw [af_for, x_cons, a5, x_seq, x_cons, b6, x_seq, x_cons, d6, x_seq, x_nil]
end Lk02

namespace Lk02
open PySem J
open L2 (Key atI)
def ends3 : List D := [.tup [.str z_give], .tup [.str z_give], .tup [.str z_halt, .str z_stop]]
theorem ri_end {i : Int} (h0 : 0 ≤ i) (h1 : i < 3) : ∃ ws, RI (gt ends3 i) ws none := by
  have hm : gt ends3 i ∈ ends3 := gt_mem h0 (by simpa [ends3] using h1)
  generalize gt ends3 i = d at hm
  simp only [ends3, List.mem_cons, List.not_mem_nil, or_false] at hm
  rcases hm with rfl | rfl | rfl
  · exact ⟨_, ri_give⟩
  · exact ⟨_, ri_give⟩
  · exact ⟨_, ri_halt⟩
section
variable {k : Nat} (hk : 6 ≤ k) {xs : List Int} {n : Nat} (hn : n < 200000) {nm : Str} {gv tl : Int} (hg1 : 0 ≤ gv) (hg2 : gv ≤ 8) {cl : List D}
include hk hn
theorem af0_ok : exS (callP (runF PG k)) PG.con af0 [some (.cell 0), some (.str nm), some (.int gv), some (.int tl), some (.cell 2), none, none, none, none, none, none, none, none] [boxC 1 n, digC xs, .lst cl] = .ok (.nx [some (.cell 0), some (.str nm), some (.int gv), some (.int tl), some (.cell 2), none, none, some (.int (dr xs n 3)), some (.int (dr xs (n + 1) 3)), none, none, none, none]) [boxC 1 (n + 2), digC xs, .lst cl] := by
  have k1 : 1 ≤ k := by omega
  have n0 : n < 1000000000000 := by omega
  have n1 : n + 1 < 1000000000000 := by omega
  simp only [af0, b__law_asm_function, List.headD_cons, v_dcomp, v_gget, v_gin, v_gix2, i_enuE, i_zipE, lstC_f, ixC_f, m_extendT, ok_dcomp, ok_gget, ok_gin, ok_gix2, pt_dcomp, pt_gget, pt_gin, pt_gix2, x_bind, x_bindS, x_seq, x_seqR, x_seqB, x_seqC, x_nil, x_cons, x_asg, x_setx, x_aug, x_exp, x_ret, x_retn, x_iff, x_forr, x_brk, x_cont, x_pass, v_var, v_con, v_glo, v_gix, v_tup, v_lst, v_dis, v_bin, v_neg, v_cmp, v_cmp2, v_not, v_and, v_or, v_ite, v_call, v_blt, v_mth, v_ix, v_sl, v_comp, es_nil, es_cons, es_star, p_nop, p_e, i_rng, i_e, cs_nil, cs_cons, tt_e, tt_cmp, tt_cmp2, tt_not, tt_and, tt_or, tt_ite, valO_some, ofO_some, noE_ok, fin_rt, fin_nx, bl_tt, bl_ff, bl_tf, bl_ft, asgT, asgTs, wipeR, lst_C, dic_C, lstC_l, lstC_d, dicC_l, dicC_d, d_addI, d_addS, d_addT, d_addL, d_sub, d_mul, d_fdiv, d_mod, d_augI, d_augSub, d_augL, c_eqI, c_eqS, c_neI, c_neS, c_lt, c_le, c_gt, c_ge, c_isn, c_isnn, c_isb, c_isnb, c_in, c_nin, in_tup, in_dic, eqF_S, eqF_I, tr_non, tr_bl, tr_int, tr_str, tr_tup, tr_rol, truC_l, truC_d, tr_cell, isi_non, isi_bl, isi_int, isi_str, isi_tup, isi_rol, isiC_l, isiC_d, isi_cell, isiT, isNonD, isBlD, ix_tup, ix_rol, ixC_l, ixC_d, ix_cell, sl_tup, sl_rol, sl_cell, setC_l, setC_d, set_cell, key_i, key_s, part_i, star_tup, star_rol, star_cell, it_tup, it_rol, it_cell, b_lenT, b_lenR, b_lenS, lenC_l, lenC_d, b_lenC, b_intI, b_intB, b_tupT, b_tupR, b_tupC, b_lstT, b_lstR, b_lstC, b_dict, b_isi, mo_join, mo_get, mo_append, mo_extend, mo_pop, mo_index, isStr_s, m_append, m_extend, m_pop, m_index, m_joinC, m_get1, m_get2, catL_ok, augL_ok, dicL_ok, appL_ok, extL_ok, capT_ok, capL_ok, le_big, lt_big, ok_var, ok_con, ok_glo, ok_gix, ok_tup, ok_lst, ok_dis, ok_bin, ok_neg, ok_cmp, ok_cmp2, ok_not, ok_and, ok_or, ok_ite, ok_call, ok_blt, ok_mth, ok_ix, ok_sl, ok_comp, pt_var, pt_con, pt_glo, pt_tup, pt_lst, pt_bin, pt_call, pt_blt, pt_mth, pt_ix, pt_sl, pt_comp, List.getElem?_cons_zero, List.getElem?_cons_succ, List.set_cons_zero, List.set_cons_succ, List.map_cons, List.map_nil, List.replicate_succ, List.replicate_zero, List.cons_append, List.nil_append, List.length_cons, List.length_nil, List.append_nil, Option.bind_some, Option.bind_none, Option.map_some, Option.map_none, Option.isSome_some, Option.isSome_none, Nat.reduceAdd, Nat.reduceSub, Nat.reduceLeDiff, Nat.reduceEqDiff, Nat.reduceLT, if_true, if_false, Bool.false_eq_true, Bool.and_true, Bool.true_and, Bool.and_false, Bool.false_and, Bool.not_true, Bool.not_false, Bool.or_true, Bool.true_or, Bool.or_false, Bool.false_or, Bool.and_self, ite_true, ite_false, decide_true, decide_false, reduceIte, Int.reduceLT, Int.reduceLE, Int.reduceNeg, Int.reducePow, Int.reduceEq, and_self, and_true, true_and, dec_str, prop_str, leq_cc, leq_nn, leq_nc, leq_cn, at_0, at_1, at_2, at_3, at_4, at_5, at_6, at_m1, cut_1, cut_2, cut_3, isE_c, isE_n, isiT_t, Int.reduceBEq, beq_self_eq_true, cst_0, cst_1, cst_2, cst_3, cst_4, cst_5, cst_6, cst_7, cst_8, cst_9, fl_s, fl_i, fl_b, fl_n, fl_t, List.all_cons, List.all_nil, List.any_cons, List.any_nil, Nat.reduceBEq, x_draw gf__law_draw k1, n0, n1, bl2]
include hg1 hg2
theorem af1_ok {l s : Int} (hs : 0 ≤ s) (hs3 : s < 3) : ∃ (n' : Nat) (g : Mem) (r : Nat) (rs : List D), n ≤ n' ∧ n' ≤ n + 11 ∧ g[r]? = some (.lst rs) ∧ Rows rs ∧ rs.length ≤ 11 ∧
    exS (callP (runF PG k)) PG.con af1 [some (.cell 0), some (.str nm), some (.int gv), some (.int tl), some (.cell 2), none, none, some (.int l), some (.int s), none, none, none, none] [boxC 1 n, digC xs, .lst cl] = .ok (.nx [some (.cell 0), some (.str nm), some (.int gv), some (.int tl), some (.cell 2), some (.cell (r + 1 + 1 + 1)), none, some (.int l), some (.int s), none, none, none, none]) (boxC 1 n' :: digC xs :: .lst cl :: g) := by
  have k1 : 1 ≤ k := by omega
  obtain ⟨a, ha⟩ : ∃ a : Nat, 8 - gv = (a : Int) := ⟨(8 - gv).toNat, by omega⟩
  obtain ⟨b, hb⟩ : ∃ b : Nat, s = (b : Int) := ⟨s.toNat, by omega⟩
  subst hb
  have ha8 : a ≤ 8 := by omega
  have hb3 : b < 3 := by omega
  obtain ⟨new1, w1, w2, w3⟩ := comp_w hk (xs := xs) (z := z_word) (m := 5) (by omega) wordR (c1 := some (.str nm)) (c2 := some (.int gv)) (c3 := some (.int tl)) (c4 := some (.cell 2)) (c5 := none) (c6 := none) (c7 := some (.int l)) (c8 := some (.int (b : Int))) (c9 := none) (c10 := none) (c11 := none) (c12 := none) a gv [] n [.lst cl] (by simp; omega) (by omega)
  obtain ⟨new2, v1, v2, v3⟩ := comp_w hk (xs := xs) (z := z_put) (m := 8) (by omega) putR (c1 := some (.str nm)) (c2 := some (.int gv)) (c3 := some (.int tl)) (c4 := some (.cell 2)) (c5 := none) (c6 := none) (c7 := some (.int l)) (c8 := some (.int (b : Int))) (c9 := none) (c10 := none) (c11 := none) (c12 := none) b 0 [] (n + a) [.lst cl, .lst new1] (by simp; omega) (by omega)
  rw [List.nil_append] at w3 v3
  have e1 : rngI ([boxC 1 n, digC xs, .lst cl] : Mem) [.int gv, .int 8] = .ok ([], rngD gv a) [boxC 1 n, digC xs, .lst cl] := by
    have i1 : in62 gv = true := by simp only [in62, Bool.and_eq_true, decide_eq_true_eq]; omega
    have i2 : in62 8 = true := rfl
    simp only [rngI, i1, i2, Bool.and_self, if_true, ha, Int.toNat_natCast]
  have e2 : ∀ M : Mem, rngI M [.int (b : Int)] = .ok ([], rngD 0 b) M := fun M => by
    have i1 : in62 (b : Int) = true := by simp only [in62, Bool.and_eq_true, decide_eq_true_eq]; omega
    simp only [rngI, i1, if_true, Int.toNat_natCast]
  have b1 : new1.length + new2.length ≤ big := le_big (by omega)
  have an5 : ∀ (d : D) (ρ : Rho), asgT (.nm 5) d ρ = some (ρ.set 5 (some d)) := fun _ _ => rfl
  refine ⟨n + a + b, [.lst new1, .lst new2, .lst (new1 ++ new2)], 2, new1 ++ new2, by omega, by omega, rfl, w1.app v1, by simp; omega, ?_⟩
  simp only [af1, b__law_asm_function, List.headD_cons, List.drop_succ_cons, List.drop_zero, x_asg, v_bin, v_comp, i_rng, es_cons, es_nil, ok_var, ok_con, v_var, v_con, List.getElem?_cons_zero, List.getElem?_cons_succ, x_bind, x_bindS, e1, e2, w3, v3, noE_ok, List.length_cons, List.length_nil, Nat.reduceAdd, List.cons_append, List.nil_append, d_addL, lst_C, lstC_l, Option.bind_some, catL_ok, b1, ofO_some, an5, List.set_cons_succ, List.set_cons_zero]
omit hg1 hg2 in
theorem af2_ok {l s : Int} (hl : 0 ≤ l) (hl3 : l < 3) (hs : 0 ≤ s) {g : Mem} {r : Nat} {rs : List D} (hr : g[r]? = some (.lst rs)) (hR : Rows rs) (hz : rs.length ≤ 11) (hcl : cl = [] ∨ cl = [gE]) {c1 c2 c3 : Option D} : ∃ (n' : Nat) (c6 c9 c10 c11 c12 : Option D) (g' : Mem) (r' : Nat) (rs' : List D), n ≤ n' ∧ n' ≤ n + 180 ∧ g'[r']? = some (.lst rs') ∧ Rows rs' ∧ rs'.length ≤ 50 ∧
    exS (callP (runF PG k)) PG.con af2 [some (.cell 0), c1, c2, c3, some (.cell 2), some (.cell (r + 1 + 1 + 1)), none, some (.int l), some (.int s), none, none, none, none] (boxC 1 n :: digC xs :: .lst cl :: g) = .ok (.nx [some (.cell 0), c1, c2, c3, some (.cell 2), some (.cell (r' + 1 + 1 + 1)), c6, some (.int l), some (.int s), c9, c10, c11, c12]) (boxC 1 n' :: digC xs :: .lst cl :: g') := by
  obtain ⟨a, ha⟩ : ∃ a : Nat, l + 1 = (a : Int) := ⟨(l + 1).toNat, by omega⟩
  have ha3 : a ≤ 3 := by omega
  obtain ⟨ρ', M', e1, n', c6, c9, c10, c11, c12, g', r', rs', e2, e3, h1, h2, h3, h4, h5⟩ := forL_inv (asg := asgT (.nm 6)) (body := exSs (callP (runF PG k)) PG.con afFor) (srcs := [])
    (fun j ρ M => ∃ (n' : Nat) (c6 c9 c10 c11 c12 : Option D) (g' : Mem) (r' : Nat) (rs' : List D), ρ = [some (.cell 0), c1, c2, c3, some (.cell 2), some (.cell (r' + 1 + 1 + 1)), c6, some (.int l), some (.int s), c9, c10, c11, c12] ∧ M = boxC 1 n' :: digC xs :: .lst cl :: g' ∧ n ≤ n' ∧ n' ≤ n + 60 * j ∧ g'[r']? = some (.lst rs') ∧ Rows rs' ∧ rs'.length ≤ 11 + 13 * j)
    (rngD 0 a) 0 [some (.cell 0), c1, c2, c3, some (.cell 2), some (.cell (r + 1 + 1 + 1)), none, some (.int l), some (.int s), none, none, none, none] (boxC 1 n :: digC xs :: .lst cl :: g)
    ⟨n, none, none, none, none, none, g, r, rs, rfl, rfl, by omega, by omega, hr, hR, by omega⟩ (fun _ _ _ _ => rfl) (by
      rintro j d ρ M hj ⟨n', c6, c9, c10, c11, c12, g', r', rs', rfl, rfl, h1, h2, h3, h4, h5⟩
      obtain ⟨rfl, hj'⟩ := rngD_at hj
      obtain ⟨n2, c92, c102, c112, c122, r2, g2, rs2, q1, q2, q3, q4, q5, q6⟩ := turn_ok hk (xs := xs) (n := n') (by omega) (c1 := c1) (c2 := c2) (c3 := c3) (c9 := c9) (c10 := c10) (c11 := c11) (c12 := c12) hl hl3 hs h3 h4 (by omega) (i := 0 + (j : Int)) (by omega) hcl
      exact ⟨_, _, _, rfl, .inl q6, n2, some (.int (0 + (j : Int))), c92, c102, c112, c122, g2, r2, rs2, rfl, rfl, by omega, by omega, q3, q4, by omega⟩)
  rw [rngD_len] at h2 h5
  refine ⟨n', c6, c9, c10, c11, c12, g', r', rs', h1, by omega, h3, h4, by omega, ?_⟩
  rw [e2, e3] at e1
  have r5 : ∀ M : Mem, rngI M [.int (a : Int)] = .ok ([], rngD 0 a) M := fun M => by
    have h62 : in62 (a : Int) = true := by simp only [in62, Bool.and_eq_true, decide_eq_true_eq]; omega
    simp only [rngI, h62, if_true, Int.toNat_natCast]
  simp only [af2, x_forr, i_rng, es_cons, es_nil, ok_bin, v_bin, ok_var, ok_con, v_var, v_con, List.getElem?_cons_zero, List.getElem?_cons_succ, x_bind, x_bindS, d_addI, ofO_some, ha, r5]
  exact e1
omit hg1 hg2 in
theorem af34_ok {l s : Int} {g : Mem} {r : Nat} {rs : List D} (hr : g[r]? = some (.lst rs)) (hR : Rows rs) (hz : rs.length ≤ 50) {c6 c9 c10 c11 c12 : Option D} : ∃ (n' : Nat) (g' : Mem) (rs' : List D), n ≤ n' ∧ n' ≤ n + 1 ∧ Rows rs' ∧ rs'.length ≤ 51 ∧
    fin (exSs (callP (runF PG k)) PG.con [af3, af4] [some (.cell 0), some (.str nm), some (.int gv), some (.int tl), some (.cell 2), some (.cell (r + 1 + 1 + 1)), c6, some (.int l), some (.int s), c9, c10, c11, c12] (boxC 1 n :: digC xs :: .lst cl :: g)) = .ok (.tup [.str nm, .int gv, .int tl, .int s, .tup rs']) (boxC 1 n' :: digC xs :: .lst cl :: g') := by
  have k1 : 1 ≤ k := by omega
  have n0 : n < 1000000000000 := by omega
  obtain ⟨ws, hw⟩ := ri_end (i := dr xs n 3) (dr_lo (by omega)) (dr_hi (by omega))
  have e1 : atI [.tup [.str z_give], .tup [.str z_give], .tup [.str z_halt, .str z_stop]] (dr xs n 3) = some (gt ends3 (dr xs n 3)) := atI_gt (ds := ends3) (dr_lo (by omega)) (dr_hi (by omega))
  have q1 : (g ++ [Cell.lst [D.tup [.str z_give], .tup [.str z_give], .tup [.str z_halt, .str z_stop]]])[r]? = some (.lst rs) := get_old hr
  have q2 := get_set (c' := .lst (rs ++ [gt ends3 (dr xs n 3)])) q1
  have bb : rs.length < big := lt_big (by omega)
  refine ⟨n + 1, (g ++ [Cell.lst [D.tup [.str z_give], .tup [.str z_give], .tup [.str z_halt, .str z_stop]]]).set r (.lst (rs ++ [gt ends3 (dr xs n 3)])), rs ++ [gt ends3 (dr xs n 3)], by omega, by omega, hR.app (Rows.one hw), by simp; omega, ?_⟩
  simp only [af3, af4, b__law_asm_function, List.headD_cons, List.drop_succ_cons, List.drop_zero, v_dcomp, v_gget, v_gin, v_gix2, i_enuE, i_zipE, lstC_f, ixC_f, m_extendT, ok_dcomp, ok_gget, ok_gin, ok_gix2, pt_dcomp, pt_gget, pt_gin, pt_gix2, x_bind, x_bindS, x_seq, x_seqR, x_seqB, x_seqC, x_nil, x_cons, x_asg, x_setx, x_aug, x_exp, x_ret, x_retn, x_iff, x_forr, x_brk, x_cont, x_pass, v_var, v_con, v_glo, v_gix, v_tup, v_lst, v_dis, v_bin, v_neg, v_cmp, v_cmp2, v_not, v_and, v_or, v_ite, v_call, v_blt, v_mth, v_ix, v_sl, v_comp, es_nil, es_cons, es_star, p_nop, p_e, i_rng, i_e, cs_nil, cs_cons, tt_e, tt_cmp, tt_cmp2, tt_not, tt_and, tt_or, tt_ite, valO_some, ofO_some, noE_ok, fin_rt, fin_nx, bl_tt, bl_ff, bl_tf, bl_ft, asgT, asgTs, wipeR, lst_C, dic_C, lstC_l, lstC_d, dicC_l, dicC_d, d_addI, d_addS, d_addT, d_addL, d_sub, d_mul, d_fdiv, d_mod, d_augI, d_augSub, d_augL, c_eqI, c_eqS, c_neI, c_neS, c_lt, c_le, c_gt, c_ge, c_isn, c_isnn, c_isb, c_isnb, c_in, c_nin, in_tup, in_dic, eqF_S, eqF_I, tr_non, tr_bl, tr_int, tr_str, tr_tup, tr_rol, truC_l, truC_d, tr_cell, isi_non, isi_bl, isi_int, isi_str, isi_tup, isi_rol, isiC_l, isiC_d, isi_cell, isiT, isNonD, isBlD, ix_tup, ix_rol, ixC_l, ixC_d, ix_cell, sl_tup, sl_rol, sl_cell, setC_l, setC_d, set_cell, key_i, key_s, part_i, star_tup, star_rol, star_cell, it_tup, it_rol, it_cell, b_lenT, b_lenR, b_lenS, lenC_l, lenC_d, b_lenC, b_intI, b_intB, b_tupT, b_tupR, b_tupC, b_lstT, b_lstR, b_lstC, b_dict, b_isi, mo_join, mo_get, mo_append, mo_extend, mo_pop, mo_index, isStr_s, m_append, m_extend, m_pop, m_index, m_joinC, m_get1, m_get2, catL_ok, augL_ok, dicL_ok, appL_ok, extL_ok, capT_ok, capL_ok, le_big, lt_big, ok_var, ok_con, ok_glo, ok_gix, ok_tup, ok_lst, ok_dis, ok_bin, ok_neg, ok_cmp, ok_cmp2, ok_not, ok_and, ok_or, ok_ite, ok_call, ok_blt, ok_mth, ok_ix, ok_sl, ok_comp, pt_var, pt_con, pt_glo, pt_tup, pt_lst, pt_bin, pt_call, pt_blt, pt_mth, pt_ix, pt_sl, pt_comp, List.getElem?_cons_zero, List.getElem?_cons_succ, List.set_cons_zero, List.set_cons_succ, List.map_cons, List.map_nil, List.replicate_succ, List.replicate_zero, List.cons_append, List.nil_append, List.length_cons, List.length_nil, List.append_nil, Option.bind_some, Option.bind_none, Option.map_some, Option.map_none, Option.isSome_some, Option.isSome_none, Nat.reduceAdd, Nat.reduceSub, Nat.reduceLeDiff, Nat.reduceEqDiff, Nat.reduceLT, if_true, if_false, Bool.false_eq_true, Bool.and_true, Bool.true_and, Bool.and_false, Bool.false_and, Bool.not_true, Bool.not_false, Bool.or_true, Bool.true_or, Bool.or_false, Bool.false_or, Bool.and_self, ite_true, ite_false, decide_true, decide_false, reduceIte, Int.reduceLT, Int.reduceLE, Int.reduceNeg, Int.reducePow, Int.reduceEq, and_self, and_true, true_and, dec_str, prop_str, leq_cc, leq_nn, leq_nc, leq_cn, at_0, at_1, at_2, at_3, at_4, at_5, at_6, at_m1, cut_1, cut_2, cut_3, isE_c, isE_n, isiT_t, Int.reduceBEq, beq_self_eq_true, cst_0, cst_1, cst_2, cst_3, cst_4, cst_5, cst_6, cst_7, cst_8, cst_9, fl_s, fl_i, fl_b, fl_n, fl_t, List.all_cons, List.all_nil, List.any_cons, List.any_nil, Nat.reduceBEq, hr, q1, q2, get_new, x_draw gf__law_draw k1, n0, e1, bb, bl1, bl2, bl3, bl5]
/-- the whole -/
theorem run_af (hn2 : n < 100000) (hcl : cl = [] ∨ cl = [gE]) : ∃ (n' : Nat) (g' : Mem) (s : Int) (rs : List D), n ≤ n' ∧ n' ≤ n + 200 ∧ Rows rs ∧ rs.length ≤ 51 ∧ runF PG (k + 1) 21 [.cell 0, .str nm, .int gv, .int tl, .cell 2] [boxC 1 n, digC xs, .lst cl] = .ok (.tup [.str nm, .int gv, .int tl, .int s, .tup rs]) (boxC 1 n' :: digC xs :: .lst cl :: g') := by
  have l0 := dr_lo (xs := xs) (at_ := n) (m := 3) (by omega)
  have l1 := dr_hi (xs := xs) (at_ := n) (m := 3) (by omega)
  have s0 := dr_lo (xs := xs) (at_ := n + 1) (m := 3) (by omega)
  have s1 := dr_hi (xs := xs) (at_ := n + 1) (m := 3) (by omega)
  obtain ⟨n1, g1, r1, rs1, a1, a2, a3, a4, a5, a6⟩ := af1_ok hk (xs := xs) (n := n + 2) (by omega) (nm := nm) (gv := gv) (tl := tl) hg1 hg2 (cl := cl) (l := dr xs n 3) (s := dr xs (n + 1) 3) s0 s1
  obtain ⟨n2, c6, c9, c10, c11, c12, g2, r2, rs2, b1, b2, b3, b4, b5, b6⟩ := af2_ok hk (xs := xs) (n := n1) (by omega) (cl := cl) (l := dr xs n 3) (s := dr xs (n + 1) 3) l0 l1 s0 a3 a4 a5 hcl (c1 := some (.str nm)) (c2 := some (.int gv)) (c3 := some (.int tl))
  obtain ⟨n3, g3, rs3, d1, d2, d3, d4, d5⟩ := af34_ok hk (xs := xs) (n := n2) (by omega) (nm := nm) (gv := gv) (tl := tl) (cl := cl) (l := dr xs n 3) (s := dr xs (n + 1) 3) b3 b4 b5 (c6 := c6) (c9 := c9) (c10 := c10) (c11 := c11) (c12 := c12)
  refine ⟨n3, g3, dr xs (n + 1) 3, rs3, by omega, by omega, d3, d4, ?_⟩
  rw [run_of gf__law_asm_function rfl, af_body]
  show fin (exSs (callP (runF PG k)) PG.con [af0, af1, af2, af3, af4] [some (.cell 0), some (.str nm), some (.int gv), some (.int tl), some (.cell 2), none, none, none, none, none, none, none, none] [boxC 1 n, digC xs, .lst cl]) = _
  rw [x_cons, af0_ok hk (by omega), x_seq, x_cons, a6, x_seq, x_cons, b6, x_seq]
  exact d5
end
end Lk02

namespace J
/-- a call that is given the box and a list -/
theorem callP_bx {run : Nat → List D → Mem → R D} {f : Nat} {ds ds0 : List D} {v : D} {xs : List Int} {n n' t : Nat} {g g' : Mem} {cl : List D} (hr : D.refsL ds = [0, t + 2]) (hds : D.rens (posL [0, 1, t + 2]) ds = some ds0) (ht : g[t]? = some (.lst cl)) (hp : D.pures cl = true)
    (h : run f ds0 [boxC 1 n, digC xs, .lst cl] = .ok v (boxC 1 n' :: digC xs :: .lst cl :: g')) (hv : v.pure = true) : callP run f ds (boxC 1 n :: digC xs :: g) = .ok v (boxC 1 n' :: digC xs :: g) := by
  have rc : D.refsL cl = [] := refsL_pure cl hp
  have e : callP run f ds (boxC 1 n :: digC xs :: g) = .ok v (setAll (boxC 1 n :: digC xs :: g) [0, 1, t + 2] [boxC 1 n', digC xs, .lst cl]) := by
    refine callP_gen (ds0 := ds0) (M0 := [boxC 1 n, digC xs, .lst cl]) (M0' := [boxC 1 n', digC xs, .lst cl]) (g := g') (v0 := v) ?_ hds ?_ h rfl ?_ ?_ ?_ ?_
    · rw [hr, wF]
      have r0 : (boxC 1 n).refs = [1] := by simp [boxC, Cell.refs, D.refsL, D.refs]
      have r2 : (Cell.lst cl).refs = [] := rc
      simp [reach, r0, r2, ht, refs_dig, reach_nil]
    · have hb : (boxC 1 n).ren (posL [0, 1, t + 2]) = some (boxC 1 n) := by simp [boxC, Cell.ren, D.rens, D.ren, posL]
      have hl : (Cell.lst cl).ren (posL [0, 1, t + 2]) = some (.lst cl) := by simp only [Cell.ren, rens_pure cl hp, Option.map_some]
      simp only [subM, List.getElem?_cons_zero, List.getElem?_cons_succ, ht, Option.bind_some, hb, hl, ren_dig, Option.map_some]
    · intro c hc r hcr
      simp only [List.mem_cons, List.not_mem_nil, or_false] at hc
      rcases hc with rfl | rfl | rfl
      · simp [boxC, Cell.refs, D.refsL, D.refs] at hcr
        subst hcr
        simp
      · rw [refs_dig] at hcr; cases hcr
      · simp [Cell.refs, rc] at hcr
    · intro r hr'
      rw [refs_pure v hv] at hr'; cases hr'
    · exact ren_pure v hv
    · have hb : (boxC 1 n').ren (fun j => [0, 1, t + 2][j]?) = some (boxC 1 n') := by simp [boxC, Cell.ren, D.rens, D.ren]
      have hl : (Cell.lst cl).ren (fun j => [0, 1, t + 2][j]?) = some (.lst cl) := by simp only [Cell.ren, rens_pure cl hp, Option.map_some]
      show subM _ _ [0, 1, 2] = _
      simp only [subM, List.getElem?_cons_zero, List.getElem?_cons_succ, Option.bind_some, hb, hl, ren_dig, Option.map_some]
  rw [e]
  have e2 : g.set t (.lst cl) = g := by
    refine List.ext_getElem? fun i => ?_
    by_cases z : i = t
    · subst z
      rw [List.getElem?_set_self (List.getElem?_eq_some_iff.mp ht).1, ht]
    · rw [List.getElem?_set_ne (fun w => z w.symm)]
  simp only [setAll, List.set_cons_zero, List.set_cons_succ, e2]
end J
namespace Lk02
open PySem J
open L2 (Key atI)
/-- a function of an asm -/
def FnD (f : D) : Prop := ∃ (nm : Str) (a b s : Int) (rs : List D), f = .tup [.str nm, .int a, .int b, .int s, .tup rs] ∧ Rows rs ∧ rs.length ≤ 60
section
variable {k : Nat} (hk : 8 ≤ k) {xs : List Int} {n : Nat} (hn : n < 90000)
include hk hn
theorem af_call {nm : Str} {gv tl : Int} (hg1 : 0 ≤ gv) (hg2 : gv ≤ 8) {cl : List D} (hcl : cl = [] ∨ cl = [gE]) {t : Nat} {g : Mem} (ht : g[t]? = some (.lst cl)) : ∃ (n' : Nat) (f : D), n ≤ n' ∧ n' ≤ n + 200 ∧ FnD f ∧ f.pure = true ∧
    callP (runF PG k) 21 [.cell 0, .str nm, .int gv, .int tl, .cell (t + 1 + 1)] (boxC 1 n :: digC xs :: g) = .ok f (boxC 1 n' :: digC xs :: g) := by
  obtain ⟨j, rfl, hj⟩ := k_succ hk
  obtain ⟨n', g', s, rs, a1, a2, a3, a4, a5⟩ := run_af (k := j) (by omega) (xs := xs) (n := n) (by omega) (nm := nm) (gv := gv) (tl := tl) hg1 hg2 (by omega) hcl
  have hp : (D.tup [.str nm, .int gv, .int tl, .int s, .tup rs]).pure = true := by simp [D.pure, D.pures, a3.pure]
  have hc : D.pures cl = true := by rcases hcl with rfl | rfl <;> simp [D.pures, D.pure, gE]
  refine ⟨n', _, a1, a2, ⟨nm, gv, tl, s, rs, rfl, a3, by omega⟩, hp, ?_⟩
  exact callP_bx (t := t) (by simp [D.refsL, D.refs]) (by simp [D.rens, D.ren, posL]) ht hc a5 hp
theorem run_asm : ∃ (n' : Nat) (g : Mem) (f1 f2 : D), n ≤ n' ∧ n' ≤ n + 500 ∧ FnD f1 ∧ FnD f2 ∧ f1.pure = true ∧ f2.pure = true ∧
    runF PG (k + 1) 22 [.cell 0] [boxC 1 n, digC xs] = .ok (.tup [.str z_asm, .tup [.tup [.str z_mx2eb, .int 8, .int 4], .tup [.str z_nx2ec, .int 16, .int 2]], .tup [f1, f2]]) (boxC 1 n' :: digC xs :: g) := by
  have k1 : 1 ≤ k := by omega
  obtain ⟨n1, f1, a1, a2, a3, a4, a5⟩ := af_call hk (xs := xs) hn (nm := z_nx2eg) (gv := 1) (tl := 2) (by omega) (by omega) (cl := []) (.inl rfl) (t := 0) (g := [.lst []]) rfl
  have hn2 : n1 + 2 < 95000 := by omega
  have l0 := dr_lo (xs := xs) (at_ := n1) (m := 3) (by omega)
  have l1 := dr_hi (xs := xs) (at_ := n1) (m := 3) (by omega)
  obtain ⟨j, rfl, hj⟩ := k_succ hk
  obtain ⟨n2, g2, s, rs, b1, b2, b3, b4, b5⟩ := run_af (k := j) (by omega) (xs := xs) (n := n1 + 1 + 1) (by omega) (nm := z_mx2ef) (gv := 1 + dr xs n1 3) (tl := 1 + dr xs (n1 + 1) 3) (by omega) (by omega) (by omega) (cl := [gE]) (.inr rfl)
  have hp : (D.tup [.str z_mx2ef, .int (1 + dr xs n1 3), .int (1 + dr xs (n1 + 1) 3), .int s, .tup rs]).pure = true := by simp [D.pure, D.pures, b3.pure]
  have q : callP (runF PG (j + 1)) 21 [.cell 0, .str z_mx2ef, .int (1 + dr xs n1 3), .int (1 + dr xs (n1 + 1) 3), .cell (1 + 2)] (boxC 1 (n1 + 1 + 1) :: digC xs :: [.lst [], .lst [gE]]) = .ok _ (boxC 1 n2 :: digC xs :: [.lst [], .lst [gE]]) := callP_bx (t := 1) (by simp [D.refsL, D.refs]) (by simp [D.rens, D.ren, posL]) rfl (by simp [D.pures, D.pure, gE]) b5 hp
  have m0 : n1 < 1000000000000 := by omega
  have m1 : n1 + 1 < 1000000000000 := by omega
  refine ⟨n2, [.lst [], .lst [gE]], f1, _, by omega, by omega, a3, ⟨_, _, _, _, _, rfl, b3, by omega⟩, a4, hp, ?_⟩
  rw [run_of gf__law_asm rfl]
  simp only [gE] at q ⊢
  simp only [b__law_asm, v_dcomp, v_gget, v_gin, v_gix2, i_enuE, i_zipE, lstC_f, ixC_f, m_extendT, ok_dcomp, ok_gget, ok_gin, ok_gix2, pt_dcomp, pt_gget, pt_gin, pt_gix2, x_bind, x_bindS, x_seq, x_seqR, x_seqB, x_seqC, x_nil, x_cons, x_asg, x_setx, x_aug, x_exp, x_ret, x_retn, x_iff, x_forr, x_brk, x_cont, x_pass, v_var, v_con, v_glo, v_gix, v_tup, v_lst, v_dis, v_bin, v_neg, v_cmp, v_cmp2, v_not, v_and, v_or, v_ite, v_call, v_blt, v_mth, v_ix, v_sl, v_comp, es_nil, es_cons, es_star, p_nop, p_e, i_rng, i_e, cs_nil, cs_cons, tt_e, tt_cmp, tt_cmp2, tt_not, tt_and, tt_or, tt_ite, valO_some, ofO_some, noE_ok, fin_rt, fin_nx, bl_tt, bl_ff, bl_tf, bl_ft, asgT, asgTs, wipeR, lst_C, dic_C, lstC_l, lstC_d, dicC_l, dicC_d, d_addI, d_addS, d_addT, d_addL, d_sub, d_mul, d_fdiv, d_mod, d_augI, d_augSub, d_augL, c_eqI, c_eqS, c_neI, c_neS, c_lt, c_le, c_gt, c_ge, c_isn, c_isnn, c_isb, c_isnb, c_in, c_nin, in_tup, in_dic, eqF_S, eqF_I, tr_non, tr_bl, tr_int, tr_str, tr_tup, tr_rol, truC_l, truC_d, tr_cell, isi_non, isi_bl, isi_int, isi_str, isi_tup, isi_rol, isiC_l, isiC_d, isi_cell, isiT, isNonD, isBlD, ix_tup, ix_rol, ixC_l, ixC_d, ix_cell, sl_tup, sl_rol, sl_cell, setC_l, setC_d, set_cell, key_i, key_s, part_i, star_tup, star_rol, star_cell, it_tup, it_rol, it_cell, b_lenT, b_lenR, b_lenS, lenC_l, lenC_d, b_lenC, b_intI, b_intB, b_tupT, b_tupR, b_tupC, b_lstT, b_lstR, b_lstC, b_dict, b_isi, mo_join, mo_get, mo_append, mo_extend, mo_pop, mo_index, isStr_s, m_append, m_extend, m_pop, m_index, m_joinC, m_get1, m_get2, catL_ok, augL_ok, dicL_ok, appL_ok, extL_ok, capT_ok, capL_ok, le_big, lt_big, ok_var, ok_con, ok_glo, ok_gix, ok_tup, ok_lst, ok_dis, ok_bin, ok_neg, ok_cmp, ok_cmp2, ok_not, ok_and, ok_or, ok_ite, ok_call, ok_blt, ok_mth, ok_ix, ok_sl, ok_comp, pt_var, pt_con, pt_glo, pt_tup, pt_lst, pt_bin, pt_call, pt_blt, pt_mth, pt_ix, pt_sl, pt_comp, List.getElem?_cons_zero, List.getElem?_cons_succ, List.set_cons_zero, List.set_cons_succ, List.map_cons, List.map_nil, List.replicate_succ, List.replicate_zero, List.cons_append, List.nil_append, List.length_cons, List.length_nil, List.append_nil, Option.bind_some, Option.bind_none, Option.map_some, Option.map_none, Option.isSome_some, Option.isSome_none, Nat.reduceAdd, Nat.reduceSub, Nat.reduceLeDiff, Nat.reduceEqDiff, Nat.reduceLT, if_true, if_false, Bool.false_eq_true, Bool.and_true, Bool.true_and, Bool.and_false, Bool.false_and, Bool.not_true, Bool.not_false, Bool.or_true, Bool.true_or, Bool.or_false, Bool.false_or, Bool.and_self, ite_true, ite_false, decide_true, decide_false, reduceIte, Int.reduceLT, Int.reduceLE, Int.reduceNeg, Int.reducePow, Int.reduceEq, and_self, and_true, true_and, dec_str, prop_str, leq_cc, leq_nn, leq_nc, leq_cn, at_0, at_1, at_2, at_3, at_4, at_5, at_6, at_m1, cut_1, cut_2, cut_3, isE_c, isE_n, isiT_t, Int.reduceBEq, beq_self_eq_true, cst_0, cst_1, cst_2, cst_3, cst_4, cst_5, cst_6, cst_7, cst_8, cst_9, fl_s, fl_i, fl_b, fl_n, fl_t, List.all_cons, List.all_nil, List.any_cons, List.any_nil, Nat.reduceBEq, a5, q, x_draw gf__law_draw k1, m0, m1, bl0, bl1, bl2, bl3]
theorem asm_call {g : Mem} : ∃ (n' : Nat) (f1 f2 : D), n ≤ n' ∧ n' ≤ n + 500 ∧ FnD f1 ∧ FnD f2 ∧ f1.pure = true ∧ f2.pure = true ∧
    callP (runF PG (k + 1)) 22 [.cell 1] (digC xs :: boxC 0 n :: g) = .ok (.tup [.str z_asm, .tup [.tup [.str z_mx2eb, .int 8, .int 4], .tup [.str z_nx2ec, .int 16, .int 2]], .tup [f1, f2]]) (digC xs :: boxC 0 n' :: g) := by
  obtain ⟨n', g', f1, f2, a1, a2, a3, a4, a5, a6, a7⟩ := run_asm hk (xs := xs) hn
  refine ⟨n', f1, f2, a1, a2, a3, a4, a5, a6, ?_⟩
  exact callP_box (b := 1) (d := 0) (ds := []) rfl rfl rfl a7 (by simp [D.pure, D.pures, a5, a6])
end
end Lk02

namespace Lk02
open PySem J
open L2 (Key atI)
abbrev Q : Type := List (List D × Option Int)
/-- rows and what they come to -/
inductive RW : List D → Q → Prop
  | nil : RW [] []
  | cons {d : D} {p : List D × Option Int} {r : List D} {t : Q} (h : RI d p.1 p.2) (t' : RW r t) : RW (d :: r) (p :: t)
theorem rw_of : ∀ {rs : List D}, Rows rs → ∃ q, RW rs q
  | [], _ => ⟨[], .nil⟩
  | d :: r, h => by
    obtain ⟨ws, lab, h1⟩ := h d List.mem_cons_self
    obtain ⟨q, h2⟩ := rw_of fun e he => h e (List.mem_cons_of_mem _ he)
    exact ⟨(ws, lab) :: q, .cons h1 h2⟩
theorem RW.len {rs : List D} {q : Q} (h : RW rs q) : q.length = rs.length := by
  induction h with
  | nil => rfl
  | cons _ _ ih => simp [ih]
def flat : Q → List D
  | [] => []
  | p :: r => p.1 ++ flat r
def offs : Nat → Q → List D
  | _, [] => []
  | h, p :: r => .int (h : Int) :: offs (h + p.1.length) r
def labD : Nat → Q → List D
  | _, [] => []
  | h, p :: r => (match p.2 with
    | some i => [.tup [.int i, .int (h : Int)]]
    | none => []) ++ labD (h + p.1.length) r
def labs : Nat → Q → List (Key × D)
  | _, [] => []
  | h, p :: r => (match p.2 with
    | some i => [(.inl i, .int (h : Int))]
    | none => []) ++ labs (h + p.1.length) r
theorem flat_len : ∀ {rs : List D} {q : Q}, RW rs q → (flat q).length ≤ 6 * rs.length
  | _, _, .nil => by simp [flat]
  | _, _, .cons h t => by
    have := flat_len t
    have := h.len
    simp [flat]
    omega
theorem offs_len : ∀ {h : Nat} {q : Q}, (offs h q).length = q.length
  | _, [] => rfl
  | h, p :: r => by simp [offs, offs_len]
theorem flat_lks : ∀ {rs : List D} {q : Q}, RW rs q → D.lks (flat q) = true
  | _, _, .nil => rfl
  | _, _, .cons h t => by
    have app : ∀ (a b : List D), D.lks a = true → D.lks b = true → D.lks (a ++ b) = true := by
      intro a
      induction a with
      | nil => exact fun b _ h => h
      | cons d r ih =>
        intro b h1 h2
        simp only [List.cons_append, D.lks, Bool.and_eq_true] at h1 ⊢
        exact ⟨h1.1, ih b h1.2 h2⟩
    exact app _ _ h.lks (flat_lks t)
theorem deps_app {b : List D} : ∀ {a : List D}, D.deps (a ++ b) = max (D.deps a) (D.deps b)
  | [] => by simp [D.deps]
  | d :: r => by simp only [List.cons_append, D.deps, deps_app (a := r)]; omega
theorem flat_dep : ∀ {rs : List D} {q : Q}, RW rs q → D.deps (flat q) ≤ 2
  | _, _, .nil => by simp [flat, D.deps]
  | _, _, .cons h t => by
    have := flat_dep t
    have := h.dep
    simp only [flat, deps_app]
    omega
theorem offs_lks : ∀ {h : Nat} {q : Q}, D.lks (offs h q) = true
  | _, [] => rfl
  | h, p :: r => by simp [offs, D.lks, D.lk, offs_lks]
theorem offs_dep : ∀ {h : Nat} {q : Q}, D.deps (offs h q) = 0
  | _, [] => rfl
  | h, p :: r => by simp [offs, D.deps, D.dep, offs_dep]
theorem pairs_lab : ∀ {h : Nat} {q : Q}, pairsD (labD h q) = some (labs h q)
  | _, [] => rfl
  | h, (ws, some i) :: r => by
    show ((toKey (.int i)).bind fun k => (pairsD (labD (h + ws.length) r)).map fun t => (k, D.int (h : Int)) :: t) = _
    rw [pairs_lab]
    rfl
  | h, (ws, none) :: r => by
    show pairsD (labD (h + ws.length) r) = _
    rw [pairs_lab]
    rfl
section
variable {k : Nat} (hk : 6 ≤ k)
include hk
theorem w_call {d : D} {p : List D × Option Int} (h : RI d p.1 p.2) {M : Mem} : callP (runF PG k) 6 [d] M = .ok (.tup p.1) M := by
  obtain ⟨M', e⟩ := h.w k (by omega)
  exact callP_pure (by simp [D.pures, h.pure]) e (by simp [D.pure, lks_pure _ h.lks])
theorem s_call {d : D} {p : List D × Option Int} (h : RI d p.1 p.2) {M : Mem} : callP (runF PG k) 16 [d] M = .ok (.int (p.1.length : Nat)) M := by
  obtain ⟨M', e⟩ := h.s k (by omega)
  exact callP_pure (by simp [D.pures, h.pure]) e rfl
theorem l_call {d : D} {p : List D × Option Int} (h : RI d p.1 p.2) {M : Mem} : callP (runF PG k) 23 [d] M = .ok (.int (p.1.length : Nat)) M := by
  obtain ⟨M', e⟩ := h.l k (by omega)
  exact callP_pure (by simp [D.pures, h.pure]) e rfl
theorem wf_loop {c0 : Option D} : ∀ {rs : List D} {q : Q}, RW rs q → ∀ (c2 : Option D) (found : List D), found.length + 6 * rs.length ≤ 1000 → ∃ c2', forL (asgT (.nm 2)) (exSs (callP (runF PG k)) PG.con [.exp (.mth .extend (.var 1) [(.call 6 [(.var 2)])])]) [] rs [c0, some (.cell 0), c2] [.lst found] = .ok (.nx [c0, some (.cell 0), c2']) [.lst (found ++ flat q)]
  | _, _, .nil, c2, found, _ => ⟨c2, by simp only [forL, ck0, if_true, flat, List.append_nil]⟩
  | _, _, .cons (d := d) (p := p) h t, c2, found, hz => by
    have hl := h.len
    simp only [List.length_cons] at hz
    have b1 : found.length + p.1.length ≤ big := le_big (by omega)
    obtain ⟨c2', e⟩ := wf_loop t (some d) (found ++ p.1) (by simp; omega)
    refine ⟨c2', ?_⟩
    have h2 : exSs (callP (runF PG k)) PG.con [.exp (.mth .extend (.var 1) [(.call 6 [(.var 2)])])] [c0, some (.cell 0), some d] [.lst found] = .ok (.nx [c0, some (.cell 0), some d]) [.lst (found ++ p.1)] := by
      simp only [v_dcomp, v_gget, v_gin, v_gix2, i_enuE, i_zipE, lstC_f, ixC_f, m_extendT, ok_dcomp, ok_gget, ok_gin, ok_gix2, pt_dcomp, pt_gget, pt_gin, pt_gix2, x_bind, x_bindS, x_seq, x_seqR, x_seqB, x_seqC, x_nil, x_cons, x_asg, x_setx, x_aug, x_exp, x_ret, x_retn, x_iff, x_forr, x_brk, x_cont, x_pass, v_var, v_con, v_glo, v_gix, v_tup, v_lst, v_dis, v_bin, v_neg, v_cmp, v_cmp2, v_not, v_and, v_or, v_ite, v_call, v_blt, v_mth, v_ix, v_sl, v_comp, es_nil, es_cons, es_star, p_nop, p_e, i_rng, i_e, cs_nil, cs_cons, tt_e, tt_cmp, tt_cmp2, tt_not, tt_and, tt_or, tt_ite, valO_some, ofO_some, noE_ok, fin_rt, fin_nx, bl_tt, bl_ff, bl_tf, bl_ft, asgT, asgTs, wipeR, lst_C, dic_C, lstC_l, lstC_d, dicC_l, dicC_d, d_addI, d_addS, d_addT, d_addL, d_sub, d_mul, d_fdiv, d_mod, d_augI, d_augSub, d_augL, c_eqI, c_eqS, c_neI, c_neS, c_lt, c_le, c_gt, c_ge, c_isn, c_isnn, c_isb, c_isnb, c_in, c_nin, in_tup, in_dic, eqF_S, eqF_I, tr_non, tr_bl, tr_int, tr_str, tr_tup, tr_rol, truC_l, truC_d, tr_cell, isi_non, isi_bl, isi_int, isi_str, isi_tup, isi_rol, isiC_l, isiC_d, isi_cell, isiT, isNonD, isBlD, ix_tup, ix_rol, ixC_l, ixC_d, ix_cell, sl_tup, sl_rol, sl_cell, setC_l, setC_d, set_cell, key_i, key_s, part_i, star_tup, star_rol, star_cell, it_tup, it_rol, it_cell, b_lenT, b_lenR, b_lenS, lenC_l, lenC_d, b_lenC, b_intI, b_intB, b_tupT, b_tupR, b_tupC, b_lstT, b_lstR, b_lstC, b_dict, b_isi, mo_join, mo_get, mo_append, mo_extend, mo_pop, mo_index, isStr_s, m_append, m_extend, m_pop, m_index, m_joinC, m_get1, m_get2, catL_ok, augL_ok, dicL_ok, appL_ok, extL_ok, capT_ok, capL_ok, le_big, lt_big, ok_var, ok_con, ok_glo, ok_gix, ok_tup, ok_lst, ok_dis, ok_bin, ok_neg, ok_cmp, ok_cmp2, ok_not, ok_and, ok_or, ok_ite, ok_call, ok_blt, ok_mth, ok_ix, ok_sl, ok_comp, pt_var, pt_con, pt_glo, pt_tup, pt_lst, pt_bin, pt_call, pt_blt, pt_mth, pt_ix, pt_sl, pt_comp, List.getElem?_cons_zero, List.getElem?_cons_succ, List.set_cons_zero, List.set_cons_succ, List.map_cons, List.map_nil, List.replicate_succ, List.replicate_zero, List.cons_append, List.nil_append, List.length_cons, List.length_nil, List.append_nil, Option.bind_some, Option.bind_none, Option.map_some, Option.map_none, Option.isSome_some, Option.isSome_none, Nat.reduceAdd, Nat.reduceSub, Nat.reduceLeDiff, Nat.reduceEqDiff, Nat.reduceLT, if_true, if_false, Bool.false_eq_true, Bool.and_true, Bool.true_and, Bool.and_false, Bool.false_and, Bool.not_true, Bool.not_false, Bool.or_true, Bool.true_or, Bool.or_false, Bool.false_or, Bool.and_self, ite_true, ite_false, decide_true, decide_false, reduceIte, Int.reduceLT, Int.reduceLE, Int.reduceNeg, Int.reducePow, Int.reduceEq, and_self, and_true, true_and, w_call hk h, b1]
    rw [forL_step ck0 rfl h2, e, List.append_assoc]
    rfl
theorem of_loop {c0 : Option D} : ∀ {rs : List D} {q : Q}, RW rs q → ∀ (c1 : Option D) (found : List D) (h : Nat), found.length + rs.length ≤ 1000 → ∃ c1' c3', forL (asgT (.nm 1)) (exSs (callP (runF PG k)) PG.con [.exp (.mth .append (.var 2) [(.var 3)]), .aug 3 .add (.call 16 [(.var 1)])]) [] rs [c0, c1, some (.cell 0), some (.int (h : Int))] [.lst found] = .ok (.nx [c0, c1', some (.cell 0), c3']) [.lst (found ++ offs h q)]
  | _, _, .nil, c1, found, h, _ => ⟨c1, _, by simp only [forL, ck0, if_true, offs, List.append_nil]; rfl⟩
  | _, _, .cons (d := d) (p := p) hr t, c1, found, h, hz => by
    simp only [List.length_cons] at hz
    have b1 : found.length < big := lt_big (by omega)
    obtain ⟨c1', c3', e⟩ := of_loop t (some d) (found ++ [.int (h : Int)]) (h + p.1.length) (by simp; omega)
    refine ⟨c1', c3', ?_⟩
    have h2 : exSs (callP (runF PG k)) PG.con [.exp (.mth .append (.var 2) [(.var 3)]), .aug 3 .add (.call 16 [(.var 1)])] [c0, some d, some (.cell 0), some (.int (h : Int))] [.lst found] = .ok (.nx [c0, some d, some (.cell 0), some (.int ((h + p.1.length : Nat) : Int))]) [.lst (found ++ [.int (h : Int)])] := by
      have ec : ((h + p.1.length : Nat) : Int) = (h : Int) + (p.1.length : Nat) := by omega
      rw [ec]
      simp only [v_dcomp, v_gget, v_gin, v_gix2, i_enuE, i_zipE, lstC_f, ixC_f, m_extendT, ok_dcomp, ok_gget, ok_gin, ok_gix2, pt_dcomp, pt_gget, pt_gin, pt_gix2, x_bind, x_bindS, x_seq, x_seqR, x_seqB, x_seqC, x_nil, x_cons, x_asg, x_setx, x_aug, x_exp, x_ret, x_retn, x_iff, x_forr, x_brk, x_cont, x_pass, v_var, v_con, v_glo, v_gix, v_tup, v_lst, v_dis, v_bin, v_neg, v_cmp, v_cmp2, v_not, v_and, v_or, v_ite, v_call, v_blt, v_mth, v_ix, v_sl, v_comp, es_nil, es_cons, es_star, p_nop, p_e, i_rng, i_e, cs_nil, cs_cons, tt_e, tt_cmp, tt_cmp2, tt_not, tt_and, tt_or, tt_ite, valO_some, ofO_some, noE_ok, fin_rt, fin_nx, bl_tt, bl_ff, bl_tf, bl_ft, asgT, asgTs, wipeR, lst_C, dic_C, lstC_l, lstC_d, dicC_l, dicC_d, d_addI, d_addS, d_addT, d_addL, d_sub, d_mul, d_fdiv, d_mod, d_augI, d_augSub, d_augL, c_eqI, c_eqS, c_neI, c_neS, c_lt, c_le, c_gt, c_ge, c_isn, c_isnn, c_isb, c_isnb, c_in, c_nin, in_tup, in_dic, eqF_S, eqF_I, tr_non, tr_bl, tr_int, tr_str, tr_tup, tr_rol, truC_l, truC_d, tr_cell, isi_non, isi_bl, isi_int, isi_str, isi_tup, isi_rol, isiC_l, isiC_d, isi_cell, isiT, isNonD, isBlD, ix_tup, ix_rol, ixC_l, ixC_d, ix_cell, sl_tup, sl_rol, sl_cell, setC_l, setC_d, set_cell, key_i, key_s, part_i, star_tup, star_rol, star_cell, it_tup, it_rol, it_cell, b_lenT, b_lenR, b_lenS, lenC_l, lenC_d, b_lenC, b_intI, b_intB, b_tupT, b_tupR, b_tupC, b_lstT, b_lstR, b_lstC, b_dict, b_isi, mo_join, mo_get, mo_append, mo_extend, mo_pop, mo_index, isStr_s, m_append, m_extend, m_pop, m_index, m_joinC, m_get1, m_get2, catL_ok, augL_ok, dicL_ok, appL_ok, extL_ok, capT_ok, capL_ok, le_big, lt_big, ok_var, ok_con, ok_glo, ok_gix, ok_tup, ok_lst, ok_dis, ok_bin, ok_neg, ok_cmp, ok_cmp2, ok_not, ok_and, ok_or, ok_ite, ok_call, ok_blt, ok_mth, ok_ix, ok_sl, ok_comp, pt_var, pt_con, pt_glo, pt_tup, pt_lst, pt_bin, pt_call, pt_blt, pt_mth, pt_ix, pt_sl, pt_comp, List.getElem?_cons_zero, List.getElem?_cons_succ, List.set_cons_zero, List.set_cons_succ, List.map_cons, List.map_nil, List.replicate_succ, List.replicate_zero, List.cons_append, List.nil_append, List.length_cons, List.length_nil, List.append_nil, Option.bind_some, Option.bind_none, Option.map_some, Option.map_none, Option.isSome_some, Option.isSome_none, Nat.reduceAdd, Nat.reduceSub, Nat.reduceLeDiff, Nat.reduceEqDiff, Nat.reduceLT, if_true, if_false, Bool.false_eq_true, Bool.and_true, Bool.true_and, Bool.and_false, Bool.false_and, Bool.not_true, Bool.not_false, Bool.or_true, Bool.true_or, Bool.or_false, Bool.false_or, Bool.and_self, ite_true, ite_false, decide_true, decide_false, reduceIte, Int.reduceLT, Int.reduceLE, Int.reduceNeg, Int.reducePow, Int.reduceEq, and_self, and_true, true_and, s_call hk hr, b1]
    rw [forL_step ck0 rfl h2, e, List.append_assoc]
    rfl
end
/-- the word of enter, as head_word reckons it -/
theorem enter_call {k : Nat} (hk : 6 ≤ k) {M : Mem} : callP (runF PG k) 4 [.str z_enter, .int 0, .int 0, .int 0] M = .ok (.int 13824) M := by
  obtain ⟨k, rfl⟩ := k_add hk
  obtain ⟨M', e⟩ := outR_ok (r := runF PG (k + 6) 4 [.str z_enter, .int 0, .int 0, .int 0] []) (d := .int 13824) (by kernel_rfl)
  exact callP_pure rfl e rfl
theorem number_call {k : Nat} (hk : 6 ≤ k) {M : Mem} : callP (runF PG k) 7 [.str z_enter] M = .ok (.int 27) M := by
  obtain ⟨k, rfl⟩ := k_add hk
  obtain ⟨M', e⟩ := outR_ok (r := runF PG (k + 6) 7 [.str z_enter] []) (d := .int 27) (by kernel_rfl)
  exact callP_pure rfl e rfl
section
variable {k : Nat} (hk : 8 ≤ k) {nm : Str} {a b s : Int} {rs : List D} {q : Q} (h : RW rs q) (hz : rs.length ≤ 60)
include hk h hz
theorem fn_pure : (D.tup [.str nm, .int a, .int b, .int s, .tup rs]).pure = true := by
  have : D.pures rs = true := by
    clear hz hk
    induction h with
    | nil => rfl
    | cons h _ ih => simp [D.pures, h.pure, ih]
  simp [D.pure, D.pures, this]
theorem wf_call {M : Mem} : callP (runF PG k) 17 [.tup [.str nm, .int a, .int b, .int s, .tup rs]] M = .ok (.tup (.int 13824 :: .int s :: flat q)) M := by
  obtain ⟨j, rfl, hj⟩ := k_succ hk
  obtain ⟨c2, e⟩ := wf_loop (k := j) (by omega) (c0 := some (.tup [.str nm, .int a, .int b, .int s, .tup rs])) h none [.int 13824, .int s] (by simp; omega)
  have e1 : runF PG (j + 1) 17 [.tup [.str nm, .int a, .int b, .int s, .tup rs]] [] = .ok (.tup (.int 13824 :: .int s :: flat q)) [.lst (.int 13824 :: .int s :: flat q)] := by
    rw [run_of gf_words_of_function rfl]
    simp only [asgT] at e
    simp only [b_words_of_function, v_dcomp, v_gget, v_gin, v_gix2, i_enuE, i_zipE, lstC_f, ixC_f, m_extendT, ok_dcomp, ok_gget, ok_gin, ok_gix2, pt_dcomp, pt_gget, pt_gin, pt_gix2, x_bind, x_bindS, x_seq, x_seqR, x_seqB, x_seqC, x_nil, x_cons, x_asg, x_setx, x_aug, x_exp, x_ret, x_retn, x_iff, x_forr, x_brk, x_cont, x_pass, v_var, v_con, v_glo, v_gix, v_tup, v_lst, v_dis, v_bin, v_neg, v_cmp, v_cmp2, v_not, v_and, v_or, v_ite, v_call, v_blt, v_mth, v_ix, v_sl, v_comp, es_nil, es_cons, es_star, p_nop, p_e, i_rng, i_e, cs_nil, cs_cons, tt_e, tt_cmp, tt_cmp2, tt_not, tt_and, tt_or, tt_ite, valO_some, ofO_some, noE_ok, fin_rt, fin_nx, bl_tt, bl_ff, bl_tf, bl_ft, asgT, asgTs, wipeR, lst_C, dic_C, lstC_l, lstC_d, dicC_l, dicC_d, d_addI, d_addS, d_addT, d_addL, d_sub, d_mul, d_fdiv, d_mod, d_augI, d_augSub, d_augL, c_eqI, c_eqS, c_neI, c_neS, c_lt, c_le, c_gt, c_ge, c_isn, c_isnn, c_isb, c_isnb, c_in, c_nin, in_tup, in_dic, eqF_S, eqF_I, tr_non, tr_bl, tr_int, tr_str, tr_tup, tr_rol, truC_l, truC_d, tr_cell, isi_non, isi_bl, isi_int, isi_str, isi_tup, isi_rol, isiC_l, isiC_d, isi_cell, isiT, isNonD, isBlD, ix_tup, ix_rol, ixC_l, ixC_d, ix_cell, sl_tup, sl_rol, sl_cell, setC_l, setC_d, set_cell, key_i, key_s, part_i, star_tup, star_rol, star_cell, it_tup, it_rol, it_cell, b_lenT, b_lenR, b_lenS, lenC_l, lenC_d, b_lenC, b_intI, b_intB, b_tupT, b_tupR, b_tupC, b_lstT, b_lstR, b_lstC, b_dict, b_isi, mo_join, mo_get, mo_append, mo_extend, mo_pop, mo_index, isStr_s, m_append, m_extend, m_pop, m_index, m_joinC, m_get1, m_get2, catL_ok, augL_ok, dicL_ok, appL_ok, extL_ok, capT_ok, capL_ok, le_big, lt_big, ok_var, ok_con, ok_glo, ok_gix, ok_tup, ok_lst, ok_dis, ok_bin, ok_neg, ok_cmp, ok_cmp2, ok_not, ok_and, ok_or, ok_ite, ok_call, ok_blt, ok_mth, ok_ix, ok_sl, ok_comp, pt_var, pt_con, pt_glo, pt_tup, pt_lst, pt_bin, pt_call, pt_blt, pt_mth, pt_ix, pt_sl, pt_comp, List.getElem?_cons_zero, List.getElem?_cons_succ, List.set_cons_zero, List.set_cons_succ, List.map_cons, List.map_nil, List.replicate_succ, List.replicate_zero, List.cons_append, List.nil_append, List.length_cons, List.length_nil, List.append_nil, Option.bind_some, Option.bind_none, Option.map_some, Option.map_none, Option.isSome_some, Option.isSome_none, Nat.reduceAdd, Nat.reduceSub, Nat.reduceLeDiff, Nat.reduceEqDiff, Nat.reduceLT, if_true, if_false, Bool.false_eq_true, Bool.and_true, Bool.true_and, Bool.and_false, Bool.false_and, Bool.not_true, Bool.not_false, Bool.or_true, Bool.true_or, Bool.or_false, Bool.false_or, Bool.and_self, ite_true, ite_false, decide_true, decide_false, reduceIte, Int.reduceLT, Int.reduceLE, Int.reduceNeg, Int.reducePow, Int.reduceEq, and_self, and_true, true_and, dec_str, prop_str, leq_cc, leq_nn, leq_nc, leq_cn, at_0, at_1, at_2, at_3, at_4, at_5, at_6, at_m1, cut_1, cut_2, cut_3, isE_c, isE_n, isiT_t, Int.reduceBEq, beq_self_eq_true, cst_0, cst_1, cst_2, cst_3, cst_4, cst_5, cst_6, cst_7, cst_8, cst_9, fl_s, fl_i, fl_b, fl_n, fl_t, List.all_cons, List.all_nil, List.any_cons, List.any_nil, Nat.reduceBEq, enter_call (k := j) (by omega), bl2, e]
  refine callP_pure (by simp only [D.pures, fn_pure (k := j + 1) (by omega) h hz, Bool.and_true]) e1 (by simp [D.pure, D.pures, lks_pure _ (flat_lks h)])
theorem run_of' : ∃ M', runF PG k 18 [.tup [.str nm, .int a, .int b, .int s, .tup rs]] [] = .ok (.tup (offs 2 q)) M' := by
  obtain ⟨j, rfl, hj⟩ := k_succ hk
  obtain ⟨c1, c3, e⟩ := of_loop (k := j) (by omega) (c0 := some (.tup [.str nm, .int a, .int b, .int s, .tup rs])) h none [] 2 (by simp; omega)
  rw [show (((2 : Nat)) : Int) = 2 from rfl, List.nil_append] at e
  refine ⟨[.lst (offs 2 q)], ?_⟩
  rw [run_of gf_offsets_of rfl]
  simp only [asgT] at e
  simp only [b_offsets_of, v_dcomp, v_gget, v_gin, v_gix2, i_enuE, i_zipE, lstC_f, ixC_f, m_extendT, ok_dcomp, ok_gget, ok_gin, ok_gix2, pt_dcomp, pt_gget, pt_gin, pt_gix2, x_bind, x_bindS, x_seq, x_seqR, x_seqB, x_seqC, x_nil, x_cons, x_asg, x_setx, x_aug, x_exp, x_ret, x_retn, x_iff, x_forr, x_brk, x_cont, x_pass, v_var, v_con, v_glo, v_gix, v_tup, v_lst, v_dis, v_bin, v_neg, v_cmp, v_cmp2, v_not, v_and, v_or, v_ite, v_call, v_blt, v_mth, v_ix, v_sl, v_comp, es_nil, es_cons, es_star, p_nop, p_e, i_rng, i_e, cs_nil, cs_cons, tt_e, tt_cmp, tt_cmp2, tt_not, tt_and, tt_or, tt_ite, valO_some, ofO_some, noE_ok, fin_rt, fin_nx, bl_tt, bl_ff, bl_tf, bl_ft, asgT, asgTs, wipeR, lst_C, dic_C, lstC_l, lstC_d, dicC_l, dicC_d, d_addI, d_addS, d_addT, d_addL, d_sub, d_mul, d_fdiv, d_mod, d_augI, d_augSub, d_augL, c_eqI, c_eqS, c_neI, c_neS, c_lt, c_le, c_gt, c_ge, c_isn, c_isnn, c_isb, c_isnb, c_in, c_nin, in_tup, in_dic, eqF_S, eqF_I, tr_non, tr_bl, tr_int, tr_str, tr_tup, tr_rol, truC_l, truC_d, tr_cell, isi_non, isi_bl, isi_int, isi_str, isi_tup, isi_rol, isiC_l, isiC_d, isi_cell, isiT, isNonD, isBlD, ix_tup, ix_rol, ixC_l, ixC_d, ix_cell, sl_tup, sl_rol, sl_cell, setC_l, setC_d, set_cell, key_i, key_s, part_i, star_tup, star_rol, star_cell, it_tup, it_rol, it_cell, b_lenT, b_lenR, b_lenS, lenC_l, lenC_d, b_lenC, b_intI, b_intB, b_tupT, b_tupR, b_tupC, b_lstT, b_lstR, b_lstC, b_dict, b_isi, mo_join, mo_get, mo_append, mo_extend, mo_pop, mo_index, isStr_s, m_append, m_extend, m_pop, m_index, m_joinC, m_get1, m_get2, catL_ok, augL_ok, dicL_ok, appL_ok, extL_ok, capT_ok, capL_ok, le_big, lt_big, ok_var, ok_con, ok_glo, ok_gix, ok_tup, ok_lst, ok_dis, ok_bin, ok_neg, ok_cmp, ok_cmp2, ok_not, ok_and, ok_or, ok_ite, ok_call, ok_blt, ok_mth, ok_ix, ok_sl, ok_comp, pt_var, pt_con, pt_glo, pt_tup, pt_lst, pt_bin, pt_call, pt_blt, pt_mth, pt_ix, pt_sl, pt_comp, List.getElem?_cons_zero, List.getElem?_cons_succ, List.set_cons_zero, List.set_cons_succ, List.map_cons, List.map_nil, List.replicate_succ, List.replicate_zero, List.cons_append, List.nil_append, List.length_cons, List.length_nil, List.append_nil, Option.bind_some, Option.bind_none, Option.map_some, Option.map_none, Option.isSome_some, Option.isSome_none, Nat.reduceAdd, Nat.reduceSub, Nat.reduceLeDiff, Nat.reduceEqDiff, Nat.reduceLT, if_true, if_false, Bool.false_eq_true, Bool.and_true, Bool.true_and, Bool.and_false, Bool.false_and, Bool.not_true, Bool.not_false, Bool.or_true, Bool.true_or, Bool.or_false, Bool.false_or, Bool.and_self, ite_true, ite_false, decide_true, decide_false, reduceIte, Int.reduceLT, Int.reduceLE, Int.reduceNeg, Int.reducePow, Int.reduceEq, and_self, and_true, true_and, dec_str, prop_str, leq_cc, leq_nn, leq_nc, leq_cn, at_0, at_1, at_2, at_3, at_4, at_5, at_6, at_m1, cut_1, cut_2, cut_3, isE_c, isE_n, isiT_t, Int.reduceBEq, beq_self_eq_true, cst_0, cst_1, cst_2, cst_3, cst_4, cst_5, cst_6, cst_7, cst_8, cst_9, fl_s, fl_i, fl_b, fl_n, fl_t, List.all_cons, List.all_nil, List.any_cons, List.any_nil, Nat.reduceBEq, bl0, bl2, e]
omit hk in
theorem of_call (hk : 8 ≤ k) {M : Mem} : callP (runF PG k) 18 [.tup [.str nm, .int a, .int b, .int s, .tup rs]] M = .ok (.tup (offs 2 q)) M := by
  obtain ⟨M', e⟩ := run_of' (k := k) hk (nm := nm) (a := a) (b := b) (s := s) h hz
  exact callP_pure (by simp only [D.pures, fn_pure (k := k) hk h hz, Bool.and_true]) e (by simp [D.pure, lks_pure _ offs_lks])
end
end Lk02

namespace J
/-- a call of what has no cells, whose value is a new cell -/
theorem callP_new {run : Nat → List D → Mem → R D} {f m : Nat} {ds : List D} {M M1 : Mem} {c : Cell} (hp : D.pures ds = true) (h : run f ds [] = .ok (.cell m) M1) (hm : M1[m]? = some c) (hr : c.refs = []) : callP run f ds M = .ok (.cell M.length) (M ++ [c]) := by
  have en : newC 0 [.cell m] M1 = [m] := by
    unfold newC
    rw [wF]
    simp [D.refsL, D.refs, reach, hm, hr, reach_nil]
  have e : leave [] [.cell m] M M1 = some ([.cell M.length], M ++ [c]) := by
    simp only [leave, List.length_nil, en, List.range_zero, subM, D.rens, D.ren, hm, cell_ren_nil hr, Option.bind_some, Option.map_some, setAll]
    simp [backG, posL]
  simp only [callP, refsL_pure ds hp, reach_nil, rens_pure ds hp, subM, h, e]
theorem compL_step {asg : D → Option Rho} {tst : Rho → Mem → R Bool} {elt : Rho → Mem → R D} {srcs : List (Nat × Cell)} {d x : D} {r acc : List D} {ρ : Rho} {M M1 M2 : Mem} (hc : chk M srcs = true) (h1 : asg d = some ρ) (h2 : tst ρ M = .ok true M1) (h3 : elt ρ M1 = .ok x M2) (hl : acc.length < big) : compL asg tst elt srcs (d :: r) acc M = compL asg tst elt srcs r (acc ++ [x]) M2 := by
  simp only [compL, hc, if_true, h1, h2, h3, x_bind, hl]
theorem compL_skip {asg : D → Option Rho} {tst : Rho → Mem → R Bool} {elt : Rho → Mem → R D} {srcs : List (Nat × Cell)} {d : D} {r acc : List D} {ρ : Rho} {M M1 : Mem} (hc : chk M srcs = true) (h1 : asg d = some ρ) (h2 : tst ρ M = .ok false M1) : compL asg tst elt srcs (d :: r) acc M = compL asg tst elt srcs r acc M1 := by
  simp only [compL, hc, if_true, h1, h2, x_bind, Bool.false_eq_true, if_false]
theorem at_mid {a : List D} {d : D} {r : List D} : L2.atI (a ++ d :: r) (a.length : Int) = some d := by
  rw [atI_nat (by simp)]
  simp
theorem at_last {a : List D} {d : D} : L2.atI (a ++ [d]) (-1) = some d := by
  unfold L2.atI L2.ixN
  have h1 : ¬ (0 : Int) ≤ -1 := by omega
  have h2 : -((a ++ [d]).length : Int) ≤ -1 := by simp; omega
  have h3 : (-1 + ((a ++ [d]).length : Int)).toNat = a.length := by simp; omega
  rw [if_neg h1, if_pos h2, h3, Option.bind_some]
  simp
end J
namespace Lk02
open PySem J
open L2 (Key atI)
def AllI (kvs : List (Key × D)) : Prop := ∀ p ∈ kvs, ∃ h : Int, p.2 = .int h
theorem labs_I : ∀ {h : Nat} {q : Q}, AllI (labs h q)
  | _, [] => fun p hp => by cases hp
  | h, (ws, some i) :: r => fun p hp => by
    simp only [labs, List.cons_append, List.nil_append, List.mem_cons] at hp
    rcases hp with rfl | hp
    · exact ⟨_, rfl⟩
    · exact labs_I p hp
  | h, (ws, none) :: r => fun p hp => labs_I p (by simpa [labs] using hp)
theorem put_I {k : Key} {i : Int} {kvs : List (Key × D)} (h : AllI kvs) : AllI (putKD k (.int i) kvs) := by
  intro p hp
  unfold putKD at hp
  split at hp
  · obtain ⟨e, he, rfl⟩ := List.mem_map.mp hp
    split
    · exact ⟨i, rfl⟩
    · exact h e he
  · rcases List.mem_append.mp hp with z | z
    · exact h p z
    · simp at z; subst z; exact ⟨i, rfl⟩
theorem merge_I : ∀ {more acc : List (Key × D)}, AllI acc → AllI more → AllI (mergeD acc more)
  | [], acc, h, _ => h
  | p :: r, acc, h, h' => by
    obtain ⟨i, e⟩ := h' p List.mem_cons_self
    show AllI (mergeD (putKD p.1 p.2 acc) r)
    rw [e]
    exact merge_I (put_I h) fun z hz => h' z (List.mem_cons_of_mem _ hz)
theorem allI_refs : ∀ {kvs : List (Key × D)}, AllI kvs → refsK kvs = []
  | [], _ => rfl
  | p :: r, h => by
    obtain ⟨i, e⟩ := h p List.mem_cons_self
    simp only [refsK, e, D.refs, allI_refs fun z hz => h z (List.mem_cons_of_mem _ hz), List.append_nil]
theorem look_mem : ∀ {kvs : List (Key × D)} {p : Key × D}, AllI kvs → p ∈ kvs → ∃ i : Int, lookK p.1 kvs = some (.int i)
  | [], p, _, h => by cases h
  | e :: r, p, h, hp => by
    unfold lookK
    by_cases z : e.1 = p.1
    · rw [if_pos z]
      obtain ⟨i, q⟩ := h e List.mem_cons_self
      exact ⟨i, by rw [q]⟩
    · rw [if_neg z]
      rcases List.mem_cons.mp hp with rfl | hp
      · exact (z rfl).elim
      · exact look_mem (fun w hw => h w (List.mem_cons_of_mem _ hw)) hp
theorem key_keyD {k : Key} : toKey (keyD k) = some k := by cases k <;> rfl
def kvs (q : Q) : List (Key × D) := mergeD [] (labs 2 q)
theorem kvs_I {q : Q} : AllI (kvs q) := merge_I (fun p hp => by cases hp) labs_I
theorem kvs_len {q : Q} : (kvs q).length ≤ q.length := by
  have h1 := mergeD_len (acc := []) (more := labs 2 q)
  have h2 : ∀ {h : Nat} {q : Q}, (labs h q).length ≤ q.length := by
    intro h q
    induction q generalizing h with
    | nil => simp [labs]
    | cons p r ih =>
      obtain ⟨ws, lab⟩ := p
      have := ih (h := h + ws.length)
      cases lab <;> simp [labs] <;> omega
  have := h2 (h := 2) (q := q)
  simp only [List.length_nil, Nat.zero_add] at h1
  unfold kvs
  omega
section
variable {k : Nat} (hk : 8 ≤ k)
include hk
def loT : E := .cmp .eq (.ix (.var 1) (.con (.int 0))) (.con (.str z_label))
theorem lo_loop {c0 : Option D} {M : Mem} : ∀ {rs : List D} {q : Q}, RW rs q → ∀ (h : Nat) (acc : List D), acc.length + rs.length ≤ 1000 →
    compL (fun d => asgT (.tp [.nm 1, .nm 2]) d (wipeR [c0, none, none] [1, 2])) (evCs (callP (runF PG k)) PG.con [loT]) (pairV (evE (callP (runF PG k)) PG.con (.ix (.var 1) (.con (.int 1)))) (evE (callP (runF PG k)) PG.con (.var 2))) [] (zipD rs (offs h q)) acc M = .ok (acc ++ labD h q) M
  | _, _, .nil, h, acc, _ => by simp only [zipD, offs, compL, ck0, if_true, labD, List.append_nil]
  | _, _, .cons (d := d) (p := p) hr t, h, acc, hz => by
    simp only [List.length_cons] at hz
    have bb : acc.length < big := lt_big (by omega)
    obtain ⟨ws, lab⟩ := p
    rcases hr.lab with ⟨e1, z, rest, rfl, e3⟩ | ⟨i, e1, rfl⟩
    · have e1 : lab = none := e1
      subst e1
      have ih := lo_loop (c0 := c0) (M := M) t (h + ws.length) acc (by omega)
      show _ = R.ok (acc ++ ([] ++ labD (h + ws.length) _)) M
      rw [List.nil_append, ← ih]
      exact compL_skip (M1 := M) ck0 rfl (by simp only [cs_cons, cs_nil, loT, tt_cmp, v_ix, v_var, v_con, wipeR, List.set_cons_succ, List.set_cons_zero, List.getElem?_cons_zero, List.getElem?_cons_succ, x_bind, ix_tup, at_0, valO_some, c_eqS, e3, Bool.false_eq_true, if_false])
    · have e1 : lab = some i := e1
      subst e1
      have ih := lo_loop (c0 := c0) (M := M) t (h + ws.length) (acc ++ [.tup [.int i, .int (h : Int)]]) (by simp; omega)
      show _ = R.ok (acc ++ ([.tup [.int i, .int (h : Int)]] ++ labD (h + ws.length) _)) M
      rw [← List.append_assoc, ← ih]
      exact compL_step (M1 := M) (M2 := M) ck0 rfl (by simp only [cs_cons, cs_nil, loT, tt_cmp, v_ix, v_var, v_con, wipeR, List.set_cons_succ, List.set_cons_zero, List.getElem?_cons_zero, List.getElem?_cons_succ, x_bind, ix_tup, at_0, valO_some, c_eqS, decide_true, if_true]) (by simp only [v_ix, v_var, v_con, wipeR, List.set_cons_succ, List.set_cons_zero, List.getElem?_cons_zero, List.getElem?_cons_succ, x_bind, ix_tup, at_1, valO_some, pairV, key_i]) bb
end
section
variable {k : Nat} (hk : 9 ≤ k) {nm : Str} {a b s : Int} {rs : List D} {q : Q} (h : RW rs q) (hz : rs.length ≤ 60)
include hk h hz
theorem lo_call {M : Mem} : callP (runF PG k) 19 [.tup [.str nm, .int a, .int b, .int s, .tup rs]] M = .ok (.cell M.length) (M ++ [.dic (kvs q)]) := by
  obtain ⟨j, rfl, hj⟩ := k_succ hk
  have e := lo_loop (k := j) hj (c0 := some (.tup [.str nm, .int a, .int b, .int s, .tup rs])) (M := []) h 2 [] (by simp; omega)
  rw [List.nil_append] at e
  have e1 : runF PG (j + 1) 19 [.tup [.str nm, .int a, .int b, .int s, .tup rs]] [] = .ok (.cell 0) [.dic (kvs q)] := by
    rw [run_of gf_label_offsets rfl]
    have z : zipI ([] : Mem) (.tup rs) (.tup (offs 2 q)) = some ([], zipD rs (offs 2 q)) := rfl
    simp only [b_label_offsets, List.replicate_succ, List.replicate_zero, List.map_cons, List.map_nil, List.cons_append, List.nil_append, Nat.reduceSub, x_cons, x_ret, v_dcomp, i_zipE, v_ix, v_var, v_con, List.getElem?_cons_zero, x_bind, ix_tup, at_4, valO_some, v_call, es_cons, es_nil, ok_var, of_call (k := j) h hz hj, z]
    show fin (seqS (bindS _ ((noErr (compL _ (evCs _ _ [loT]) _ [] (zipD rs (offs 2 q)) [] [])).bind _) _) _) = _
    rw [e, noE_ok, x_bind]
    simp only [pairs_lab]
    rfl
  exact callP_new (by simp only [D.pures, fn_pure (k := j) hj h hz, Bool.and_true]) e1 rfl (allI_refs kvs_I)
end
end Lk02

namespace Lk02
open PySem J
open L2 (Key atI)
def lawT : List S := match b_law.body with
  | _ :: .forr _ _ b :: _ => b
  | _ => []
def lawF : List S := match lawT with
  | [_, _, _, .forr _ _ b] => b
  | _ => []
def F0 : S := lawF.headD .pass
def F2 : S := (lawF.drop 2).headD .pass
def F3 : S := .asg (.nm 8) (.call 19 [(.var 6)])
def F4 : S := (lawF.drop 4).headD .pass
def F5 : S := (lawF.drop 5).headD .pass
def F6B : List S := [.iff (.nott (.call 3 [(.mth .get (.var 8) [(.var 10)]), (.ix (.var 9) (.var 10))])) [.ret (.con (.bl false))] []]
def F6 : S := .ford .keys (.nm 10) 9 F6B
def RB : List S := match lawF with
  | _ :: .forr _ _ b :: _ => b
  | _ => []
def F1 : S := .forr (.nm 7) (.ix (.var 6) (.con (.int 4))) RB
theorem lawF_eq : lawF = [F0, F1, F2, F3, F4, F5, F6] := rfl
theorem get_two {g : Mem} {a b : Cell} : (g ++ [a] ++ [b])[g.length]? = some a := get_old get_new
section
variable {k : Nat} (hk : 10 ≤ k) {d0 d1 : Cell} {c0 c1 c2 c3 c4 c5 c8 c9 c10 c13 : Option D}
include hk
/-- one row -/
theorem rb_ok {d : D} {p : List D × Option Int} (h : RI d p.1 p.2) {fn : D} {A W : Nat} {ah wh : List D} {g : Mem} (hA : g[A]? = some (.lst ah)) (hW : g[W]? = some (.lst wh)) (ne : A ≠ W) (ha : ah.length < 500) (hw : wh.length < 500) :
    exSs (callP (runF PG k)) PG.con RB [c0, c1, c2, c3, c4, c5, some fn, some d, c8, c9, c10, some (.cell (A + 1 + 1)), some (.cell (W + 1 + 1)), c13] (d0 :: d1 :: g) =
      .ok (.nx [c0, c1, c2, c3, c4, c5, some fn, some d, c8, c9, c10, some (.cell (A + 1 + 1)), some (.cell ((g.set A (Cell.lst (ah ++ [D.int (wh.length : Nat)])) ++ [Cell.lst p.1]).length + 1 + 1)), c13]) (d0 :: d1 :: (g.set A (Cell.lst (ah ++ [D.int (wh.length : Nat)])) ++ [Cell.lst p.1] ++ [Cell.lst (wh ++ p.1)])) := by
  have hl := h.len
  have b1 : ah.length < big := lt_big (by omega)
  have b2 : wh.length + p.1.length ≤ big := le_big (by omega)
  have q1 : (g.set A (Cell.lst (ah ++ [D.int (wh.length : Nat)])))[W]? = some (.lst wh) := by
    rw [List.getElem?_set_ne ne]; exact hW
  have q2 : (g.set A (Cell.lst (ah ++ [D.int (wh.length : Nat)])) ++ [Cell.lst p.1])[W]? = some (.lst wh) := get_old q1
  have q3 : (g.set A (Cell.lst (ah ++ [D.int (wh.length : Nat)])) ++ [Cell.lst p.1] ++ [Cell.lst (wh ++ p.1)])[A]? = some (Cell.lst (ah ++ [D.int (wh.length : Nat)])) := get_old (get_old (get_set hA))
  have q4 : ((wh ++ p.1).length : Int) = (wh.length : Nat) + (p.1.length : Nat) := by simp
  have ng : negD (.int 1) = some (.int (-1)) := rfl
  simp only [RB, lawF, lawT, b_law, v_dcomp, v_gget, v_gin, v_gix2, i_enuE, i_zipE, lstC_f, ixC_f, m_extendT, ok_dcomp, ok_gget, ok_gin, ok_gix2, pt_dcomp, pt_gget, pt_gin, pt_gix2, x_bind, x_bindS, x_seq, x_seqR, x_seqB, x_seqC, x_nil, x_cons, x_asg, x_setx, x_aug, x_exp, x_ret, x_retn, x_iff, x_forr, x_brk, x_cont, x_pass, v_var, v_con, v_glo, v_gix, v_tup, v_lst, v_dis, v_bin, v_neg, v_cmp, v_cmp2, v_not, v_and, v_or, v_ite, v_call, v_blt, v_mth, v_ix, v_sl, v_comp, es_nil, es_cons, es_star, p_nop, p_e, i_rng, i_e, cs_nil, cs_cons, tt_e, tt_cmp, tt_cmp2, tt_not, tt_and, tt_or, tt_ite, valO_some, ofO_some, noE_ok, fin_rt, fin_nx, bl_tt, bl_ff, bl_tf, bl_ft, asgT, asgTs, wipeR, lst_C, dic_C, lstC_l, lstC_d, dicC_l, dicC_d, d_addI, d_addS, d_addT, d_addL, d_sub, d_mul, d_fdiv, d_mod, d_augI, d_augSub, d_augL, c_eqI, c_eqS, c_neI, c_neS, c_lt, c_le, c_gt, c_ge, c_isn, c_isnn, c_isb, c_isnb, c_in, c_nin, in_tup, in_dic, eqF_S, eqF_I, tr_non, tr_bl, tr_int, tr_str, tr_tup, tr_rol, truC_l, truC_d, tr_cell, isi_non, isi_bl, isi_int, isi_str, isi_tup, isi_rol, isiC_l, isiC_d, isi_cell, isiT, isNonD, isBlD, ix_tup, ix_rol, ixC_l, ixC_d, ix_cell, sl_tup, sl_rol, sl_cell, setC_l, setC_d, set_cell, key_i, key_s, part_i, star_tup, star_rol, star_cell, it_tup, it_rol, it_cell, b_lenT, b_lenR, b_lenS, lenC_l, lenC_d, b_lenC, b_intI, b_intB, b_tupT, b_tupR, b_tupC, b_lstT, b_lstR, b_lstC, b_dict, b_isi, mo_join, mo_get, mo_append, mo_extend, mo_pop, mo_index, isStr_s, m_append, m_extend, m_pop, m_index, m_joinC, m_get1, m_get2, catL_ok, augL_ok, dicL_ok, appL_ok, extL_ok, capT_ok, capL_ok, le_big, lt_big, ok_var, ok_con, ok_glo, ok_gix, ok_tup, ok_lst, ok_dis, ok_bin, ok_neg, ok_cmp, ok_cmp2, ok_not, ok_and, ok_or, ok_ite, ok_call, ok_blt, ok_mth, ok_ix, ok_sl, ok_comp, pt_var, pt_con, pt_glo, pt_tup, pt_lst, pt_bin, pt_call, pt_blt, pt_mth, pt_ix, pt_sl, pt_comp, List.getElem?_cons_zero, List.getElem?_cons_succ, List.set_cons_zero, List.set_cons_succ, List.map_cons, List.map_nil, List.replicate_succ, List.replicate_zero, List.cons_append, List.nil_append, List.length_cons, List.length_nil, List.append_nil, Option.bind_some, Option.bind_none, Option.map_some, Option.map_none, Option.isSome_some, Option.isSome_none, Nat.reduceAdd, Nat.reduceSub, Nat.reduceLeDiff, Nat.reduceEqDiff, Nat.reduceLT, if_true, if_false, Bool.false_eq_true, Bool.and_true, Bool.true_and, Bool.and_false, Bool.false_and, Bool.not_true, Bool.not_false, Bool.or_true, Bool.true_or, Bool.or_false, Bool.false_or, Bool.and_self, ite_true, ite_false, decide_true, decide_false, reduceIte, Int.reduceLT, Int.reduceLE, Int.reduceNeg, Int.reducePow, Int.reduceEq, and_self, and_true, true_and, ng, hA, hW, q2, q3, get_new, w_call (k := k) (by omega) h, l_call (k := k) (by omega) h, b1, b2, at_last, q4, beq_self_eq_true]
theorem f1_loop {fn : D} : ∀ {rs : List D} {q : Q}, RW rs q → ∀ (c7 : Option D) (g : Mem) (A W : Nat) (ah wh : List D), g[A]? = some (.lst ah) → g[W]? = some (.lst wh) → A ≠ W → ah.length + rs.length < 500 → wh.length + 6 * rs.length < 500 →
    ∃ (c7' : Option D) (g' : Mem) (W' : Nat), g'[A]? = some (Cell.lst (ah ++ offs wh.length q)) ∧ g'[W']? = some (.lst (wh ++ flat q)) ∧
      forL (asgT (.nm 7)) (exSs (callP (runF PG k)) PG.con RB) [] rs [c0, c1, c2, c3, c4, c5, some fn, c7, c8, c9, c10, some (.cell (A + 1 + 1)), some (.cell (W + 1 + 1)), c13] (d0 :: d1 :: g) =
        .ok (.nx [c0, c1, c2, c3, c4, c5, some fn, c7', c8, c9, c10, some (.cell (A + 1 + 1)), some (.cell (W' + 1 + 1)), c13]) (d0 :: d1 :: g')
  | _, _, .nil, c7, g, A, W, ah, wh, hA, hW, _, _, _ => ⟨c7, g, W, by simp only [offs, List.append_nil]; exact hA, by simp only [flat, List.append_nil]; exact hW, forL_end ck0⟩
  | _, _, .cons (d := d) (p := p) h t, c7, g, A, W, ah, wh, hA, hW, ne, ha, hw => by
    have hl := h.len
    simp only [List.length_cons] at ha hw
    have e := rb_ok hk (d0 := d0) (d1 := d1) (c0 := c0) (c1 := c1) (c2 := c2) (c3 := c3) (c4 := c4) (c5 := c5) (c8 := c8) (c9 := c9) (c10 := c10) (c13 := c13) h (fn := fn) hA hW ne (by omega) (by omega)
    have hAl : A < g.length := (List.getElem?_eq_some_iff.mp hA).1
    obtain ⟨c7', g', W', h1, h2, h3⟩ := f1_loop t (some d) (g.set A (Cell.lst (ah ++ [D.int (wh.length : Nat)])) ++ [Cell.lst p.1] ++ [Cell.lst (wh ++ p.1)]) A (g.set A (Cell.lst (ah ++ [D.int (wh.length : Nat)])) ++ [Cell.lst p.1]).length (ah ++ [D.int (wh.length : Nat)]) (wh ++ p.1)
      (get_old (get_old (get_set hA))) get_new (by simp; omega) (by simp; omega) (by simp; omega)
    refine ⟨c7', g', W', ?_, ?_, ?_⟩
    · rw [h1, List.append_assoc, List.length_append]; rfl
    · rw [h2, List.append_assoc]; rfl
    · rw [forL_step ck0 rfl e, h3]
theorem due_loop {fn : D} {nm : Str} {a b s : Int} {rs0 : List D} {ah0 : List D} {M : Mem} {A : Nat} (hM : M[A]? = some (.lst ah0)) {c7 c12 : Option D} : ∀ {rs : List D} {q : Q}, RW rs q → ∀ (pre pa : List D) (h : Nat) (acc : List D), rs0 = pre ++ rs → ah0 = pa ++ offs h q → pre.length = pa.length → acc.length + rs.length ≤ 1000 →
    compL (fun d => asgT (.nm 13) d (wipeR [c0, c1, c2, c3, c4, c5, some (.tup [.str nm, .int a, .int b, .int s, .tup rs0]), c7, c8, c9, c10, some (.cell A), c12, c13] [13])) (evCs (callP (runF PG k)) PG.con [(.cmp .eq (.ix (.ix (.ix (.var 6) (.con (.int 4))) (.var 13)) (.con (.int 0))) (.con (.str z_label)))])
      (evE (callP (runF PG k)) PG.con (.tup [(.ix (.ix (.ix (.var 6) (.con (.int 4))) (.var 13)) (.con (.int 1))), (.ix (.var 11) (.var 13))])) [] (rngD (pre.length : Int) rs.length) acc M = .ok (acc ++ labD h q) M
  | _, _, .nil, pre, pa, h, acc, _, _, _, _ => by simp only [List.length_nil, rngD, compL, ck0, if_true, labD, List.append_nil]
  | _, _, .cons (d := d) (p := p) hr t, pre, pa, h, acc, e1, e2, e3, hz => by
    simp only [List.length_cons] at hz
    have bb : acc.length < big := lt_big (by omega)
    obtain ⟨ws, lab⟩ := p
    have g1 : atI rs0 (pre.length : Int) = some d := by rw [e1]; exact at_mid
    have g2 : atI ah0 (pre.length : Int) = some (.int (h : Int)) := by rw [e2, e3]; exact at_mid
    have nx : ((pre ++ [d]).length : Int) = (pre.length : Int) + 1 := by simp
    rw [List.length_cons, rngD, ← nx]
    have ih := fun acc ha => due_loop (fn := fn) (nm := nm) (a := a) (b := b) (s := s) (rs0 := rs0) (ah0 := ah0) (c7 := c7) (c12 := c12) hM t (pre ++ [d]) (pa ++ [.int (h : Int)]) (h + ws.length) acc (by rw [e1]; simp) (by rw [e2]; simp [offs]) (by simp [e3]) ha
    rcases hr.lab with ⟨e4, z, rest, rfl, e5⟩ | ⟨i, e4, rfl⟩
    · have e4 : lab = none := e4
      subst e4
      show _ = R.ok (acc ++ ([] ++ labD (h + ws.length) _)) M
      rw [List.nil_append, ← ih acc (by omega)]
      exact compL_skip (M1 := M) ck0 rfl (by simp only [cs_cons, cs_nil, tt_cmp, v_ix, v_var, v_con, wipeR, List.set_cons_succ, List.set_cons_zero, List.getElem?_cons_zero, List.getElem?_cons_succ, x_bind, ix_tup, at_0, at_4, g1, valO_some, c_eqS, e5, Bool.false_eq_true, if_false])
    · have e4 : lab = some i := e4
      subst e4
      show _ = R.ok (acc ++ ([.tup [.int i, .int (h : Int)]] ++ labD (h + ws.length) _)) M
      rw [← List.append_assoc, ← ih (acc ++ [D.tup [D.int i, D.int (h : Int)]]) (by simp; omega)]
      exact compL_step (M1 := M) (M2 := M) ck0 rfl (by simp only [cs_cons, cs_nil, tt_cmp, v_ix, v_var, v_con, wipeR, List.set_cons_succ, List.set_cons_zero, List.getElem?_cons_zero, List.getElem?_cons_succ, x_bind, ix_tup, at_0, at_4, g1, valO_some, c_eqS, decide_true, if_true])
        (by simp only [v_tup, es_cons, es_nil, ok_ix, v_ix, v_var, v_con, wipeR, List.set_cons_succ, List.set_cons_zero, List.getElem?_cons_zero, List.getElem?_cons_succ, x_bind, ix_tup, ix_cell, hM, ixC_l, at_1, at_4, g1, g2, valO_some, capT_ok, List.length_cons, List.length_nil, Nat.reduceAdd, bl2]) bb
end
end Lk02

namespace Lk02
open PySem J
open L2 (Key atI)
section
variable {k : Nat} (hk : 12 ≤ k) {d0 d1 : Cell} {c0 c1 c2 c3 c4 c5 c7 c8 c9 c10 c11 c12 c13 : Option D} {nm : Str} {a b s : Int} {rs : List D} {q : Q} (h : RW rs q) (hz : rs.length ≤ 60) {g : Mem}
include hk
theorem F0_ok : exS (callP (runF PG k)) PG.con F0 [c0, c1, c2, c3, c4, c5, some (.tup [.str nm, .int a, .int b, .int s, .tup rs]), c7, c8, c9, c10, c11, c12, c13] (d0 :: d1 :: g) =
    .ok (.nx [c0, c1, c2, c3, c4, c5, some (.tup [.str nm, .int a, .int b, .int s, .tup rs]), c7, c8, c9, c10, some (.cell (g.length + 1 + 1)), some (.cell ((g ++ [Cell.lst []]).length + 1 + 1)), c13]) (d0 :: d1 :: (g ++ [Cell.lst []] ++ [Cell.lst [.int 13824, .int s]])) := by
  have hm : ∀ M : Mem, binD .mul (.int 27) (.int 512) M = some (.int 13824, M) := fun _ => rfl
  simp only [F0, lawF, lawT, b_law, List.headD_cons, v_dcomp, v_gget, v_gin, v_gix2, i_enuE, i_zipE, lstC_f, ixC_f, m_extendT, ok_dcomp, ok_gget, ok_gin, ok_gix2, pt_dcomp, pt_gget, pt_gin, pt_gix2, x_bind, x_bindS, x_seq, x_seqR, x_seqB, x_seqC, x_nil, x_cons, x_asg, x_setx, x_aug, x_exp, x_ret, x_retn, x_iff, x_forr, x_brk, x_cont, x_pass, v_var, v_con, v_glo, v_gix, v_tup, v_lst, v_dis, v_bin, v_neg, v_cmp, v_cmp2, v_not, v_and, v_or, v_ite, v_call, v_blt, v_mth, v_ix, v_sl, v_comp, es_nil, es_cons, es_star, p_nop, p_e, i_rng, i_e, cs_nil, cs_cons, tt_e, tt_cmp, tt_cmp2, tt_not, tt_and, tt_or, tt_ite, valO_some, ofO_some, noE_ok, fin_rt, fin_nx, bl_tt, bl_ff, bl_tf, bl_ft, asgT, asgTs, wipeR, lst_C, dic_C, lstC_l, lstC_d, dicC_l, dicC_d, d_addI, d_addS, d_addT, d_addL, d_sub, d_mul, d_fdiv, d_mod, d_augI, d_augSub, d_augL, c_eqI, c_eqS, c_neI, c_neS, c_lt, c_le, c_gt, c_ge, c_isn, c_isnn, c_isb, c_isnb, c_in, c_nin, in_tup, in_dic, eqF_S, eqF_I, tr_non, tr_bl, tr_int, tr_str, tr_tup, tr_rol, truC_l, truC_d, tr_cell, isi_non, isi_bl, isi_int, isi_str, isi_tup, isi_rol, isiC_l, isiC_d, isi_cell, isiT, isNonD, isBlD, ix_tup, ix_rol, ixC_l, ixC_d, ix_cell, sl_tup, sl_rol, sl_cell, setC_l, setC_d, set_cell, key_i, key_s, part_i, star_tup, star_rol, star_cell, it_tup, it_rol, it_cell, b_lenT, b_lenR, b_lenS, lenC_l, lenC_d, b_lenC, b_intI, b_intB, b_tupT, b_tupR, b_tupC, b_lstT, b_lstR, b_lstC, b_dict, b_isi, mo_join, mo_get, mo_append, mo_extend, mo_pop, mo_index, isStr_s, m_append, m_extend, m_pop, m_index, m_joinC, m_get1, m_get2, catL_ok, augL_ok, dicL_ok, appL_ok, extL_ok, capT_ok, capL_ok, le_big, lt_big, ok_var, ok_con, ok_glo, ok_gix, ok_tup, ok_lst, ok_dis, ok_bin, ok_neg, ok_cmp, ok_cmp2, ok_not, ok_and, ok_or, ok_ite, ok_call, ok_blt, ok_mth, ok_ix, ok_sl, ok_comp, pt_var, pt_con, pt_glo, pt_tup, pt_lst, pt_bin, pt_call, pt_blt, pt_mth, pt_ix, pt_sl, pt_comp, List.getElem?_cons_zero, List.getElem?_cons_succ, List.set_cons_zero, List.set_cons_succ, List.map_cons, List.map_nil, List.replicate_succ, List.replicate_zero, List.cons_append, List.nil_append, List.length_cons, List.length_nil, List.append_nil, Option.bind_some, Option.bind_none, Option.map_some, Option.map_none, Option.isSome_some, Option.isSome_none, Nat.reduceAdd, Nat.reduceSub, Nat.reduceLeDiff, Nat.reduceEqDiff, Nat.reduceLT, if_true, if_false, Bool.false_eq_true, Bool.and_true, Bool.true_and, Bool.and_false, Bool.false_and, Bool.not_true, Bool.not_false, Bool.or_true, Bool.true_or, Bool.or_false, Bool.false_or, Bool.and_self, ite_true, ite_false, decide_true, decide_false, reduceIte, Int.reduceLT, Int.reduceLE, Int.reduceNeg, Int.reducePow, Int.reduceEq, and_self, and_true, true_and, dec_str, prop_str, leq_cc, leq_nn, leq_nc, leq_cn, at_0, at_1, at_2, at_3, at_4, at_5, at_6, at_m1, cut_1, cut_2, cut_3, isE_c, isE_n, isiT_t, Int.reduceBEq, beq_self_eq_true, cst_0, cst_1, cst_2, cst_3, cst_4, cst_5, cst_6, cst_7, cst_8, cst_9, fl_s, fl_i, fl_b, fl_n, fl_t, List.all_cons, List.all_nil, List.any_cons, List.any_nil, Nat.reduceBEq, bl0, bl2, number_call (k := k) (by omega), hm]
include h hz
theorem F1_ok {A W : Nat} (hA : g[A]? = some (.lst [])) (hW : g[W]? = some (.lst [.int 13824, .int s])) (ne : A ≠ W) : ∃ (c7' : Option D) (g' : Mem) (W' : Nat), g'[A]? = some (.lst (offs 2 q)) ∧ g'[W']? = some (.lst (.int 13824 :: .int s :: flat q)) ∧
    exS (callP (runF PG k)) PG.con F1 [c0, c1, c2, c3, c4, c5, some (.tup [.str nm, .int a, .int b, .int s, .tup rs]), c7, c8, c9, c10, some (.cell (A + 1 + 1)), some (.cell (W + 1 + 1)), c13] (d0 :: d1 :: g) =
      .ok (.nx [c0, c1, c2, c3, c4, c5, some (.tup [.str nm, .int a, .int b, .int s, .tup rs]), c7', c8, c9, c10, some (.cell (A + 1 + 1)), some (.cell (W' + 1 + 1)), c13]) (d0 :: d1 :: g') := by
  obtain ⟨c7', g', W', h1, h2, h3⟩ := f1_loop (k := k) (by omega) (d0 := d0) (d1 := d1) (c0 := c0) (c1 := c1) (c2 := c2) (c3 := c3) (c4 := c4) (c5 := c5) (c8 := c8) (c9 := c9) (c10 := c10) (c13 := c13) (fn := .tup [.str nm, .int a, .int b, .int s, .tup rs]) h c7 g A W [] [.int 13824, .int s] hA hW ne (by simp; omega) (by simp; omega)
  refine ⟨c7', g', W', h1, h2, ?_⟩
  simp only [F1, x_forr, i_e, ok_ix, v_ix, v_var, v_con, List.getElem?_cons_zero, List.getElem?_cons_succ, x_bind, x_bindS, ix_tup, at_4, valO_some, it_tup]
  exact h3
theorem F2_ok {A W : Nat} (hA : g[A]? = some (.lst (offs 2 q))) (hW : g[W]? = some (.lst (.int 13824 :: .int s :: flat q))) :
    exS (callP (runF PG k)) PG.con F2 [c0, c1, c2, c3, c4, c5, some (.tup [.str nm, .int a, .int b, .int s, .tup rs]), c7, c8, c9, c10, some (.cell (A + 1 + 1)), some (.cell (W + 1 + 1)), c13] (d0 :: d1 :: g) =
      .ok (.nx [c0, c1, c2, c3, c4, c5, some (.tup [.str nm, .int a, .int b, .int s, .tup rs]), c7, c8, c9, c10, some (.cell (A + 1 + 1)), some (.cell (W + 1 + 1)), c13]) (d0 :: d1 :: g) := by
  have fl := flat_len h
  have ql := h.len
  have e1 : ∀ M : Mem, callP (runF PG k) 3 [.tup (.int 13824 :: .int s :: flat q), .tup (.int 13824 :: .int s :: flat q)] M = .ok (.bl true) M := fun M => s_like gf__law_like (by
    have bb : (flat q).length + 1 + 1 ≤ big := le_big (by omega)
    simp [D.lk, D.lks, flat_lks h, bb]) (by
    have := flat_dep h
    simp [D.dep, D.deps]; omega)
  have e2 : ∀ M : Mem, callP (runF PG k) 3 [.tup (offs 2 q), .tup (offs 2 q)] M = .ok (.bl true) M := fun M => s_like gf__law_like (by
    have bb : (offs 2 q).length ≤ big := le_big (by rw [offs_len]; omega)
    simp [D.lk, offs_lks, bb]) (by
    simp [D.dep, offs_dep]; omega)
  simp only [F2, lawF, lawT, b_law, List.headD_cons, List.drop_succ_cons, List.drop_zero, v_dcomp, v_gget, v_gin, v_gix2, i_enuE, i_zipE, lstC_f, ixC_f, m_extendT, ok_dcomp, ok_gget, ok_gin, ok_gix2, pt_dcomp, pt_gget, pt_gin, pt_gix2, x_bind, x_bindS, x_seq, x_seqR, x_seqB, x_seqC, x_nil, x_cons, x_asg, x_setx, x_aug, x_exp, x_ret, x_retn, x_iff, x_forr, x_brk, x_cont, x_pass, v_var, v_con, v_glo, v_gix, v_tup, v_lst, v_dis, v_bin, v_neg, v_cmp, v_cmp2, v_not, v_and, v_or, v_ite, v_call, v_blt, v_mth, v_ix, v_sl, v_comp, es_nil, es_cons, es_star, p_nop, p_e, i_rng, i_e, cs_nil, cs_cons, tt_e, tt_cmp, tt_cmp2, tt_not, tt_and, tt_or, tt_ite, valO_some, ofO_some, noE_ok, fin_rt, fin_nx, bl_tt, bl_ff, bl_tf, bl_ft, asgT, asgTs, wipeR, lst_C, dic_C, lstC_l, lstC_d, dicC_l, dicC_d, d_addI, d_addS, d_addT, d_addL, d_sub, d_mul, d_fdiv, d_mod, d_augI, d_augSub, d_augL, c_eqI, c_eqS, c_neI, c_neS, c_lt, c_le, c_gt, c_ge, c_isn, c_isnn, c_isb, c_isnb, c_in, c_nin, in_tup, in_dic, eqF_S, eqF_I, tr_non, tr_bl, tr_int, tr_str, tr_tup, tr_rol, truC_l, truC_d, tr_cell, isi_non, isi_bl, isi_int, isi_str, isi_tup, isi_rol, isiC_l, isiC_d, isi_cell, isiT, isNonD, isBlD, ix_tup, ix_rol, ixC_l, ixC_d, ix_cell, sl_tup, sl_rol, sl_cell, setC_l, setC_d, set_cell, key_i, key_s, part_i, star_tup, star_rol, star_cell, it_tup, it_rol, it_cell, b_lenT, b_lenR, b_lenS, lenC_l, lenC_d, b_lenC, b_intI, b_intB, b_tupT, b_tupR, b_tupC, b_lstT, b_lstR, b_lstC, b_dict, b_isi, mo_join, mo_get, mo_append, mo_extend, mo_pop, mo_index, isStr_s, m_append, m_extend, m_pop, m_index, m_joinC, m_get1, m_get2, catL_ok, augL_ok, dicL_ok, appL_ok, extL_ok, capT_ok, capL_ok, le_big, lt_big, ok_var, ok_con, ok_glo, ok_gix, ok_tup, ok_lst, ok_dis, ok_bin, ok_neg, ok_cmp, ok_cmp2, ok_not, ok_and, ok_or, ok_ite, ok_call, ok_blt, ok_mth, ok_ix, ok_sl, ok_comp, pt_var, pt_con, pt_glo, pt_tup, pt_lst, pt_bin, pt_call, pt_blt, pt_mth, pt_ix, pt_sl, pt_comp, List.getElem?_cons_zero, List.getElem?_cons_succ, List.set_cons_zero, List.set_cons_succ, List.map_cons, List.map_nil, List.replicate_succ, List.replicate_zero, List.cons_append, List.nil_append, List.length_cons, List.length_nil, List.append_nil, Option.bind_some, Option.bind_none, Option.map_some, Option.map_none, Option.isSome_some, Option.isSome_none, Nat.reduceAdd, Nat.reduceSub, Nat.reduceLeDiff, Nat.reduceEqDiff, Nat.reduceLT, if_true, if_false, Bool.false_eq_true, Bool.and_true, Bool.true_and, Bool.and_false, Bool.false_and, Bool.not_true, Bool.not_false, Bool.or_true, Bool.true_or, Bool.or_false, Bool.false_or, Bool.and_self, ite_true, ite_false, decide_true, decide_false, reduceIte, Int.reduceLT, Int.reduceLE, Int.reduceNeg, Int.reducePow, Int.reduceEq, and_self, and_true, true_and, wf_call (k := k) (by omega) h hz, of_call (k := k) h hz (by omega), hA, hW, e1, e2]
theorem F3_ok : exS (callP (runF PG k)) PG.con F3 [c0, c1, c2, c3, c4, c5, some (.tup [.str nm, .int a, .int b, .int s, .tup rs]), c7, c8, c9, c10, c11, c12, c13] (d0 :: d1 :: g) =
      .ok (.nx [c0, c1, c2, c3, c4, c5, some (.tup [.str nm, .int a, .int b, .int s, .tup rs]), c7, some (.cell (g.length + 1 + 1)), c9, c10, c11, c12, c13]) (d0 :: d1 :: (g ++ [.dic (kvs q)])) := by
  simp only [F3, v_dcomp, v_gget, v_gin, v_gix2, i_enuE, i_zipE, lstC_f, ixC_f, m_extendT, ok_dcomp, ok_gget, ok_gin, ok_gix2, pt_dcomp, pt_gget, pt_gin, pt_gix2, x_bind, x_bindS, x_seq, x_seqR, x_seqB, x_seqC, x_nil, x_cons, x_asg, x_setx, x_aug, x_exp, x_ret, x_retn, x_iff, x_forr, x_brk, x_cont, x_pass, v_var, v_con, v_glo, v_gix, v_tup, v_lst, v_dis, v_bin, v_neg, v_cmp, v_cmp2, v_not, v_and, v_or, v_ite, v_call, v_blt, v_mth, v_ix, v_sl, v_comp, es_nil, es_cons, es_star, p_nop, p_e, i_rng, i_e, cs_nil, cs_cons, tt_e, tt_cmp, tt_cmp2, tt_not, tt_and, tt_or, tt_ite, valO_some, ofO_some, noE_ok, fin_rt, fin_nx, bl_tt, bl_ff, bl_tf, bl_ft, asgT, asgTs, wipeR, lst_C, dic_C, lstC_l, lstC_d, dicC_l, dicC_d, d_addI, d_addS, d_addT, d_addL, d_sub, d_mul, d_fdiv, d_mod, d_augI, d_augSub, d_augL, c_eqI, c_eqS, c_neI, c_neS, c_lt, c_le, c_gt, c_ge, c_isn, c_isnn, c_isb, c_isnb, c_in, c_nin, in_tup, in_dic, eqF_S, eqF_I, tr_non, tr_bl, tr_int, tr_str, tr_tup, tr_rol, truC_l, truC_d, tr_cell, isi_non, isi_bl, isi_int, isi_str, isi_tup, isi_rol, isiC_l, isiC_d, isi_cell, isiT, isNonD, isBlD, ix_tup, ix_rol, ixC_l, ixC_d, ix_cell, sl_tup, sl_rol, sl_cell, setC_l, setC_d, set_cell, key_i, key_s, part_i, star_tup, star_rol, star_cell, it_tup, it_rol, it_cell, b_lenT, b_lenR, b_lenS, lenC_l, lenC_d, b_lenC, b_intI, b_intB, b_tupT, b_tupR, b_tupC, b_lstT, b_lstR, b_lstC, b_dict, b_isi, mo_join, mo_get, mo_append, mo_extend, mo_pop, mo_index, isStr_s, m_append, m_extend, m_pop, m_index, m_joinC, m_get1, m_get2, catL_ok, augL_ok, dicL_ok, appL_ok, extL_ok, capT_ok, capL_ok, le_big, lt_big, ok_var, ok_con, ok_glo, ok_gix, ok_tup, ok_lst, ok_dis, ok_bin, ok_neg, ok_cmp, ok_cmp2, ok_not, ok_and, ok_or, ok_ite, ok_call, ok_blt, ok_mth, ok_ix, ok_sl, ok_comp, pt_var, pt_con, pt_glo, pt_tup, pt_lst, pt_bin, pt_call, pt_blt, pt_mth, pt_ix, pt_sl, pt_comp, List.getElem?_cons_zero, List.getElem?_cons_succ, List.set_cons_zero, List.set_cons_succ, List.map_cons, List.map_nil, List.replicate_succ, List.replicate_zero, List.cons_append, List.nil_append, List.length_cons, List.length_nil, List.append_nil, Option.bind_some, Option.bind_none, Option.map_some, Option.map_none, Option.isSome_some, Option.isSome_none, Nat.reduceAdd, Nat.reduceSub, Nat.reduceLeDiff, Nat.reduceEqDiff, Nat.reduceLT, if_true, if_false, Bool.false_eq_true, Bool.and_true, Bool.true_and, Bool.and_false, Bool.false_and, Bool.not_true, Bool.not_false, Bool.or_true, Bool.true_or, Bool.or_false, Bool.false_or, Bool.and_self, ite_true, ite_false, decide_true, decide_false, reduceIte, Int.reduceLT, Int.reduceLE, Int.reduceNeg, Int.reducePow, Int.reduceEq, and_self, and_true, true_and, lo_call (k := k) (by omega) h hz]
theorem F4_ok {A : Nat} (hA : g[A]? = some (.lst (offs 2 q))) : exS (callP (runF PG k)) PG.con F4 [c0, c1, c2, c3, c4, c5, some (.tup [.str nm, .int a, .int b, .int s, .tup rs]), c7, c8, c9, c10, some (.cell (A + 1 + 1)), c12, c13] (d0 :: d1 :: g) =
      .ok (.nx [c0, c1, c2, c3, c4, c5, some (.tup [.str nm, .int a, .int b, .int s, .tup rs]), c7, c8, some (.cell ((g ++ [Cell.lst (labD 2 q)]).length + 1 + 1)), c10, some (.cell (A + 1 + 1)), c12, c13]) (d0 :: d1 :: (g ++ [Cell.lst (labD 2 q)] ++ [.dic (kvs q)])) := by
  have e := due_loop (k := k) (by omega) (c0 := c0) (c1 := c1) (c2 := c2) (c3 := c3) (c4 := c4) (c5 := c5) (c8 := c8) (c9 := c9) (c10 := c10) (c13 := c13) (fn := .non) (nm := nm) (a := a) (b := b) (s := s) (rs0 := rs) (ah0 := offs 2 q) (M := d0 :: d1 :: g) (A := A + 1 + 1) hA (c7 := c7) (c12 := c12) h [] [] 2 [] rfl rfl rfl (by simp; omega)
  rw [List.nil_append, show (([] : List D).length : Int) = 0 from rfl] at e
  have r5 : ∀ M : Mem, rngI M [.int (rs.length : Int)] = .ok ([], rngD 0 rs.length) M := fun M => by
    have h62 : in62 (rs.length : Int) = true := by simp only [in62, Bool.and_eq_true, decide_eq_true_eq]; omega
    simp only [rngI, h62, if_true, Int.toNat_natCast]
  have ll : (labs 2 q).length ≤ big := by
    have h2 : ∀ {h : Nat} {q : Q}, (labs h q).length ≤ q.length := by
      intro h q
      induction q generalizing h with
      | nil => simp [labs]
      | cons p r ih =>
        obtain ⟨ws, lab⟩ := p
        have := ih (h := h + ws.length)
        cases lab <;> simp [labs] <;> omega
    have := h2 (h := 2) (q := q)
    have := h.len
    exact le_big (by omega)
  have an9 : ∀ (d : D) (ρ : Rho), asgT (.nm 9) d ρ = some (ρ.set 9 (some d)) := fun _ _ => rfl
  simp only [F4, lawF, lawT, b_law, List.headD_cons, List.drop_succ_cons, List.drop_zero, x_asg, v_blt, es_cons, es_nil, ok_comp, v_comp, i_rng, ok_blt, ok_ix, v_ix, v_var, v_con, List.getElem?_cons_zero, List.getElem?_cons_succ, x_bind, x_bindS, ix_tup, at_4, valO_some, b_lenT, ofO_some, r5, e, noE_ok, List.cons_append, List.length_cons, b_dict, get_new, lstC_l, Option.bind_some, pairs_lab, dicL_ok ll, an9, List.set_cons_succ, List.set_cons_zero]
  rfl
omit h hz in
theorem F5_ok {A B : Nat} {kv : List (Key × D)} (hA : g[A]? = some (.dic kv)) (hB : g[B]? = some (.dic kv)) : exS (callP (runF PG k)) PG.con F5 [c0, c1, c2, c3, c4, c5, some (.tup [.str nm, .int a, .int b, .int s, .tup rs]), c7, some (.cell (A + 1 + 1)), some (.cell (B + 1 + 1)), c10, c11, c12, c13] (d0 :: d1 :: g) =
      .ok (.nx [c0, c1, c2, c3, c4, c5, some (.tup [.str nm, .int a, .int b, .int s, .tup rs]), c7, some (.cell (A + 1 + 1)), some (.cell (B + 1 + 1)), c10, c11, c12, c13]) (d0 :: d1 :: g) := by
  simp only [F5, lawF, lawT, b_law, List.headD_cons, List.drop_succ_cons, List.drop_zero, v_dcomp, v_gget, v_gin, v_gix2, i_enuE, i_zipE, lstC_f, ixC_f, m_extendT, ok_dcomp, ok_gget, ok_gin, ok_gix2, pt_dcomp, pt_gget, pt_gin, pt_gix2, x_bind, x_bindS, x_seq, x_seqR, x_seqB, x_seqC, x_nil, x_cons, x_asg, x_setx, x_aug, x_exp, x_ret, x_retn, x_iff, x_forr, x_brk, x_cont, x_pass, v_var, v_con, v_glo, v_gix, v_tup, v_lst, v_dis, v_bin, v_neg, v_cmp, v_cmp2, v_not, v_and, v_or, v_ite, v_call, v_blt, v_mth, v_ix, v_sl, v_comp, es_nil, es_cons, es_star, p_nop, p_e, i_rng, i_e, cs_nil, cs_cons, tt_e, tt_cmp, tt_cmp2, tt_not, tt_and, tt_or, tt_ite, valO_some, ofO_some, noE_ok, fin_rt, fin_nx, bl_tt, bl_ff, bl_tf, bl_ft, asgT, asgTs, wipeR, lst_C, dic_C, lstC_l, lstC_d, dicC_l, dicC_d, d_addI, d_addS, d_addT, d_addL, d_sub, d_mul, d_fdiv, d_mod, d_augI, d_augSub, d_augL, c_eqI, c_eqS, c_neI, c_neS, c_lt, c_le, c_gt, c_ge, c_isn, c_isnn, c_isb, c_isnb, c_in, c_nin, in_tup, in_dic, eqF_S, eqF_I, tr_non, tr_bl, tr_int, tr_str, tr_tup, tr_rol, truC_l, truC_d, tr_cell, isi_non, isi_bl, isi_int, isi_str, isi_tup, isi_rol, isiC_l, isiC_d, isi_cell, isiT, isNonD, isBlD, ix_tup, ix_rol, ixC_l, ixC_d, ix_cell, sl_tup, sl_rol, sl_cell, setC_l, setC_d, set_cell, key_i, key_s, part_i, star_tup, star_rol, star_cell, it_tup, it_rol, it_cell, b_lenT, b_lenR, b_lenS, lenC_l, lenC_d, b_lenC, b_intI, b_intB, b_tupT, b_tupR, b_tupC, b_lstT, b_lstR, b_lstC, b_dict, b_isi, mo_join, mo_get, mo_append, mo_extend, mo_pop, mo_index, isStr_s, m_append, m_extend, m_pop, m_index, m_joinC, m_get1, m_get2, catL_ok, augL_ok, dicL_ok, appL_ok, extL_ok, capT_ok, capL_ok, le_big, lt_big, ok_var, ok_con, ok_glo, ok_gix, ok_tup, ok_lst, ok_dis, ok_bin, ok_neg, ok_cmp, ok_cmp2, ok_not, ok_and, ok_or, ok_ite, ok_call, ok_blt, ok_mth, ok_ix, ok_sl, ok_comp, pt_var, pt_con, pt_glo, pt_tup, pt_lst, pt_bin, pt_call, pt_blt, pt_mth, pt_ix, pt_sl, pt_comp, List.getElem?_cons_zero, List.getElem?_cons_succ, List.set_cons_zero, List.set_cons_succ, List.map_cons, List.map_nil, List.replicate_succ, List.replicate_zero, List.cons_append, List.nil_append, List.length_cons, List.length_nil, List.append_nil, Option.bind_some, Option.bind_none, Option.map_some, Option.map_none, Option.isSome_some, Option.isSome_none, Nat.reduceAdd, Nat.reduceSub, Nat.reduceLeDiff, Nat.reduceEqDiff, Nat.reduceLT, if_true, if_false, Bool.false_eq_true, Bool.and_true, Bool.true_and, Bool.and_false, Bool.false_and, Bool.not_true, Bool.not_false, Bool.or_true, Bool.true_or, Bool.or_false, Bool.false_or, Bool.and_self, ite_true, ite_false, decide_true, decide_false, reduceIte, Int.reduceLT, Int.reduceLE, Int.reduceNeg, Int.reducePow, Int.reduceEq, and_self, and_true, true_and, hA, hB, beq_self_eq_true]
omit h hz in
theorem F6_ok {A B : Nat} {kv : List (Key × D)} (hA : g[A]? = some (.dic kv)) (hB : g[B]? = some (.dic kv)) (ne : A ≠ B) (hI : AllI kv) : ∃ c10' : Option D, exS (callP (runF PG k)) PG.con F6 [c0, c1, c2, c3, c4, c5, some (.tup [.str nm, .int a, .int b, .int s, .tup rs]), c7, some (.cell (A + 1 + 1)), some (.cell (B + 1 + 1)), c10, c11, c12, c13] (d0 :: d1 :: g) =
      .ok (.nx [c0, c1, c2, c3, c4, c5, some (.tup [.str nm, .int a, .int b, .int s, .tup rs]), c7, some (.cell (A + 1 + 1)), some (.cell (B + 1 + 1)), c10', c11, c12, c13]) (d0 :: d1 :: g) := by
  have q1 : (g.set B (.frd kv))[A]? = some (.dic kv) := by rw [List.getElem?_set_ne (Ne.symm ne)]; exact hA
  have q2 : (g.set B (.frd kv))[B]? = some (.frd kv) := get_set hB
  obtain ⟨ρ', M', e1, c10', rfl, rfl⟩ := forL_inv (asg := asgT (.nm 10)) (body := exSs (callP (runF PG k)) PG.con F6B) (srcs := [])
    (fun _ ρ M => ∃ c10' : Option D, ρ = [c0, c1, c2, c3, c4, c5, some (.tup [.str nm, .int a, .int b, .int s, .tup rs]), c7, some (.cell (A + 1 + 1)), some (.cell (B + 1 + 1)), c10', c11, c12, c13] ∧ M = d0 :: d1 :: g.set B (.frd kv))
    (wkD .keys kv) 0 [c0, c1, c2, c3, c4, c5, some (.tup [.str nm, .int a, .int b, .int s, .tup rs]), c7, some (.cell (A + 1 + 1)), some (.cell (B + 1 + 1)), c10, c11, c12, c13] (d0 :: d1 :: g.set B (.frd kv)) ⟨c10, rfl, rfl⟩ (fun _ _ _ _ => rfl) (by
      rintro j d ρ M hj ⟨c10', rfl, rfl⟩
      simp only [wkD, List.getElem?_map] at hj
      cases hp : kv[j]? with
      | none => rw [hp] at hj; cases hj
      | some p =>
        rw [hp] at hj
        cases hj
        obtain ⟨i, hi⟩ := look_mem hI (List.mem_of_getElem? hp)
        have e3 : ∀ M : Mem, callP (runF PG k) 3 [.int i, .int i] M = .ok (.bl true) M := fun M => s_like gf__law_like rfl (by simp [D.dep]; omega)
        refine ⟨_, _, _, rfl, .inl ?_, some (keyD p.1), rfl, rfl⟩
        simp only [F6B, v_dcomp, v_gget, v_gin, v_gix2, i_enuE, i_zipE, lstC_f, ixC_f, m_extendT, ok_dcomp, ok_gget, ok_gin, ok_gix2, pt_dcomp, pt_gget, pt_gin, pt_gix2, x_bind, x_bindS, x_seq, x_seqR, x_seqB, x_seqC, x_nil, x_cons, x_asg, x_setx, x_aug, x_exp, x_ret, x_retn, x_iff, x_forr, x_brk, x_cont, x_pass, v_var, v_con, v_glo, v_gix, v_tup, v_lst, v_dis, v_bin, v_neg, v_cmp, v_cmp2, v_not, v_and, v_or, v_ite, v_call, v_blt, v_mth, v_ix, v_sl, v_comp, es_nil, es_cons, es_star, p_nop, p_e, i_rng, i_e, cs_nil, cs_cons, tt_e, tt_cmp, tt_cmp2, tt_not, tt_and, tt_or, tt_ite, valO_some, ofO_some, noE_ok, fin_rt, fin_nx, bl_tt, bl_ff, bl_tf, bl_ft, asgT, asgTs, wipeR, lst_C, dic_C, lstC_l, lstC_d, dicC_l, dicC_d, d_addI, d_addS, d_addT, d_addL, d_sub, d_mul, d_fdiv, d_mod, d_augI, d_augSub, d_augL, c_eqI, c_eqS, c_neI, c_neS, c_lt, c_le, c_gt, c_ge, c_isn, c_isnn, c_isb, c_isnb, c_in, c_nin, in_tup, in_dic, eqF_S, eqF_I, tr_non, tr_bl, tr_int, tr_str, tr_tup, tr_rol, truC_l, truC_d, tr_cell, isi_non, isi_bl, isi_int, isi_str, isi_tup, isi_rol, isiC_l, isiC_d, isi_cell, isiT, isNonD, isBlD, ix_tup, ix_rol, ixC_l, ixC_d, ix_cell, sl_tup, sl_rol, sl_cell, setC_l, setC_d, set_cell, key_i, key_s, part_i, star_tup, star_rol, star_cell, it_tup, it_rol, it_cell, b_lenT, b_lenR, b_lenS, lenC_l, lenC_d, b_lenC, b_intI, b_intB, b_tupT, b_tupR, b_tupC, b_lstT, b_lstR, b_lstC, b_dict, b_isi, mo_join, mo_get, mo_append, mo_extend, mo_pop, mo_index, isStr_s, m_append, m_extend, m_pop, m_index, m_joinC, m_get1, m_get2, catL_ok, augL_ok, dicL_ok, appL_ok, extL_ok, capT_ok, capL_ok, le_big, lt_big, ok_var, ok_con, ok_glo, ok_gix, ok_tup, ok_lst, ok_dis, ok_bin, ok_neg, ok_cmp, ok_cmp2, ok_not, ok_and, ok_or, ok_ite, ok_call, ok_blt, ok_mth, ok_ix, ok_sl, ok_comp, pt_var, pt_con, pt_glo, pt_tup, pt_lst, pt_bin, pt_call, pt_blt, pt_mth, pt_ix, pt_sl, pt_comp, List.getElem?_cons_zero, List.getElem?_cons_succ, List.set_cons_zero, List.set_cons_succ, List.map_cons, List.map_nil, List.replicate_succ, List.replicate_zero, List.cons_append, List.nil_append, List.length_cons, List.length_nil, List.append_nil, Option.bind_some, Option.bind_none, Option.map_some, Option.map_none, Option.isSome_some, Option.isSome_none, Nat.reduceAdd, Nat.reduceSub, Nat.reduceLeDiff, Nat.reduceEqDiff, Nat.reduceLT, if_true, if_false, Bool.false_eq_true, Bool.and_true, Bool.true_and, Bool.and_false, Bool.false_and, Bool.not_true, Bool.not_false, Bool.or_true, Bool.true_or, Bool.or_false, Bool.false_or, Bool.and_self, ite_true, ite_false, decide_true, decide_false, reduceIte, Int.reduceLT, Int.reduceLE, Int.reduceNeg, Int.reducePow, Int.reduceEq, and_self, and_true, true_and, q1, q2, key_keyD, hi, e3, Option.getD_some])
  refine ⟨c10', ?_⟩
  have un : ∀ (ρ : Rho) (M : Mem), unlS (B + 1 + 1) kv (.ok (.nx ρ) M) = .ok (.nx ρ) (M.set (B + 1 + 1) (.dic kv)) := fun _ _ => rfl
  have e4 : g.set B (.dic kv) = g := set_self hB
  simp only [F6, x_ford, List.getElem?_cons_zero, List.getElem?_cons_succ, hB, List.set_cons_succ, e1, un, List.set_set, e4]
/-- a function stands the tests -/
theorem F_ok : ∃ (c7' c8' c9' c10' c11' c12' : Option D) (g' : Mem), exSs (callP (runF PG k)) PG.con lawF [c0, c1, c2, c3, c4, c5, some (.tup [.str nm, .int a, .int b, .int s, .tup rs]), c7, c8, c9, c10, c11, c12, c13] (d0 :: d1 :: g) =
      .ok (.nx [c0, c1, c2, c3, c4, c5, some (.tup [.str nm, .int a, .int b, .int s, .tup rs]), c7', c8', c9', c10', c11', c12', c13]) (d0 :: d1 :: g') := by
  have e0 := F0_ok hk (d0 := d0) (d1 := d1) (c0 := c0) (c1 := c1) (c2 := c2) (c3 := c3) (c4 := c4) (c5 := c5) (c7 := c7) (c8 := c8) (c9 := c9) (c10 := c10) (c11 := c11) (c12 := c12) (c13 := c13) (nm := nm) (a := a) (b := b) (s := s) (rs := rs) (g := g)
  obtain ⟨c7', g1, W, h1, h2, e1⟩ := F1_ok hk (d0 := d0) (d1 := d1) (c0 := c0) (c1 := c1) (c2 := c2) (c3 := c3) (c4 := c4) (c5 := c5) (c7 := c7) (c8 := c8) (c9 := c9) (c10 := c10) (c13 := c13) (nm := nm) (a := a) (b := b) (s := s) h hz (g := g ++ [Cell.lst []] ++ [Cell.lst [.int 13824, .int s]]) (A := g.length) (W := (g ++ [Cell.lst []]).length) get_two get_new (by simp)
  have e2 := F2_ok hk (d0 := d0) (d1 := d1) (c0 := c0) (c1 := c1) (c2 := c2) (c3 := c3) (c4 := c4) (c5 := c5) (c7 := c7') (c8 := c8) (c9 := c9) (c10 := c10) (c13 := c13) (nm := nm) (a := a) (b := b) h hz h1 h2
  have e3 := F3_ok hk (d0 := d0) (d1 := d1) (c0 := c0) (c1 := c1) (c2 := c2) (c3 := c3) (c4 := c4) (c5 := c5) (c7 := c7') (c8 := c8) (c9 := c9) (c10 := c10) (c11 := some (.cell (g.length + 1 + 1))) (c12 := some (.cell (W + 1 + 1))) (c13 := c13) (nm := nm) (a := a) (b := b) (s := s) h hz (g := g1)
  have e4 := F4_ok hk (d0 := d0) (d1 := d1) (c0 := c0) (c1 := c1) (c2 := c2) (c3 := c3) (c4 := c4) (c5 := c5) (c7 := c7') (c8 := some (.cell (g1.length + 1 + 1))) (c9 := c9) (c10 := c10) (c12 := some (.cell (W + 1 + 1))) (c13 := c13) (nm := nm) (a := a) (b := b) (s := s) h hz (g := g1 ++ [.dic (kvs q)]) (A := g.length) (get_old h1)
  have q1 : (g1 ++ [Cell.dic (kvs q)] ++ [Cell.lst (labD 2 q)] ++ [Cell.dic (kvs q)])[g1.length]? = some (.dic (kvs q)) := get_old (get_old get_new)
  have q2 : (g1 ++ [Cell.dic (kvs q)] ++ [Cell.lst (labD 2 q)] ++ [Cell.dic (kvs q)])[(g1 ++ [Cell.dic (kvs q)] ++ [Cell.lst (labD 2 q)]).length]? = some (.dic (kvs q)) := get_new
  have e5 := F5_ok hk (d0 := d0) (d1 := d1) (c0 := c0) (c1 := c1) (c2 := c2) (c3 := c3) (c4 := c4) (c5 := c5) (c7 := c7') (c10 := c10) (c11 := some (.cell (g.length + 1 + 1))) (c12 := some (.cell (W + 1 + 1))) (c13 := c13) (nm := nm) (a := a) (b := b) (s := s) (rs := rs) q1 q2
  obtain ⟨c10', e6⟩ := F6_ok hk (d0 := d0) (d1 := d1) (c0 := c0) (c1 := c1) (c2 := c2) (c3 := c3) (c4 := c4) (c5 := c5) (c7 := c7') (c10 := c10) (c11 := some (.cell (g.length + 1 + 1))) (c12 := some (.cell (W + 1 + 1))) (c13 := c13) (nm := nm) (a := a) (b := b) (s := s) (rs := rs) q1 q2 (by simp) kvs_I
  exact ⟨_, _, _, _, _, _, _, by rw [lawF_eq, x_cons, e0, x_seq, x_cons, e1, x_seq, x_cons, e2, x_seq, x_cons, e3, x_seq, x_cons, e4, x_seq, x_cons, e5, x_seq, x_cons, e6, x_seq, x_nil]⟩
end
end Lk02

namespace Lk02
open PySem J
open L2 (Key atI)
def T2 : S := (lawT.drop 2).headD .pass
theorem lawT_eq : lawT = [.asg (.nm 3) (.call 22 [(.var 1)]), .asg (.nm 4) (.bin .add (.con (.int 1)) (.call 1 [(.var 1), (.con (.int 4))])), T2, .forr (.nm 6) (.bin .add (.ix (.var 3) (.con (.int 2))) (.tup [(.var 5)])) lawF] := rfl
theorem rng_int : ∀ {m : Nat} {lo : Int} {d : D}, d ∈ rngD lo m → ∃ i : Int, d = .int i
  | 0, lo, d, h => by cases h
  | m + 1, lo, d, h => by
    rcases List.mem_cons.mp h with rfl | h
    · exact ⟨lo, rfl⟩
    · exact rng_int h
def asmD (f1 f2 : D) : D := .tup [.str z_asm, .tup [.tup [.str z_mx2eb, .int 8, .int 4], .tup [.str z_nx2ec, .int 16, .int 2]], .tup [f1, f2]]
section
variable {k : Nat} (hk : 12 ≤ k) {xs : List Int} {n : Nat} (hn : n < 80000) {c0 c2 c3 c5 c6 c7 c8 c9 c10 c11 c12 c13 : Option D} {g : Mem}
include hk hn
theorem T2_ok {many : Int} (h1 : 1 ≤ many) (h2 : many ≤ 4) : ∃ (b : D) (g' : Mem), FnD b ∧ exS (callP (runF PG k)) PG.con T2 [c0, some (.cell 1), c2, c3, some (.int many), c5, c6, c7, c8, c9, c10, c11, c12, c13] (digC xs :: boxC 0 n :: g) =
    .ok (.nx [c0, some (.cell 1), c2, c3, some (.int many), some b, c6, c7, c8, c9, c10, c11, c12, c13]) (digC xs :: boxC 0 (n + 1) :: g') := by
  obtain ⟨m, rfl⟩ : ∃ m : Nat, many = (m : Int) := ⟨many.toNat, by omega⟩
  have hm : m ≤ 4 := by omega
  have pk : callP (runF PG k) 2 [.cell 1, .cell (g.length + 1 + 1)] (digC xs :: boxC 0 n :: (g ++ [Cell.lst [.int 0, .int 1, .int 200]])) = .ok (.int (pkI xs n [.int 0, .int 1, .int 200])) (digC xs :: boxC 0 (n + 1) :: (g ++ [Cell.lst [.int 0, .int 1, .int 200]])) :=
    s_pickI gf__law_draw gf__law_pick (by omega) (by simp) rfl (by omega) (M := digC xs :: boxC 0 n :: (g ++ [Cell.lst [.int 0, .int 1, .int 200]])) (b := 1) (d := 0) rfl rfl (by simp only [List.getElem?_cons_succ, get_new]) (by omega) (by omega)
  have r5 : ∀ M : Mem, rngI M [.int (m : Int)] = .ok ([], rngD 0 m) M := fun M => by
    have h62 : in62 (m : Int) = true := by simp only [in62, Bool.and_eq_true, decide_eq_true_eq]; omega
    simp only [rngI, h62, if_true, Int.toNat_natCast]
  have cm := compL_map (asg := fun d => asgT (.nm 13) d (wipeR [c0, some (.cell 1), c2, c3, some (.int (m : Int)), c5, c6, c7, c8, c9, c10, c11, c12, c13] [13])) (tst := evCs (callP (runF PG k)) PG.con []) (elt := evE (callP (runF PG k)) PG.con (.tup [(.con (.str z_label)), (.blt .int [(.var 13)])])) (srcs := []) (g := fun d => .tup [.str z_label, d]) (M := digC xs :: boxC 0 (n + 1) :: (g ++ [Cell.lst [.int 0, .int 1, .int 200]])) ck0 (ds := rngD 0 m) (acc := []) (by rw [rngD_len]; exact le_big (by simp; omega)) (by
    intro d hd
    obtain ⟨i, rfl⟩ := rng_int hd
    exact ⟨_, rfl, by simp only [cs_nil], by simp only [v_dcomp, v_gget, v_gin, v_gix2, i_enuE, i_zipE, lstC_f, ixC_f, m_extendT, ok_dcomp, ok_gget, ok_gin, ok_gix2, pt_dcomp, pt_gget, pt_gin, pt_gix2, x_bind, x_bindS, x_seq, x_seqR, x_seqB, x_seqC, x_nil, x_cons, x_asg, x_setx, x_aug, x_exp, x_ret, x_retn, x_iff, x_forr, x_brk, x_cont, x_pass, v_var, v_con, v_glo, v_gix, v_tup, v_lst, v_dis, v_bin, v_neg, v_cmp, v_cmp2, v_not, v_and, v_or, v_ite, v_call, v_blt, v_mth, v_ix, v_sl, v_comp, es_nil, es_cons, es_star, p_nop, p_e, i_rng, i_e, cs_nil, cs_cons, tt_e, tt_cmp, tt_cmp2, tt_not, tt_and, tt_or, tt_ite, valO_some, ofO_some, noE_ok, fin_rt, fin_nx, bl_tt, bl_ff, bl_tf, bl_ft, asgT, asgTs, wipeR, lst_C, dic_C, lstC_l, lstC_d, dicC_l, dicC_d, d_addI, d_addS, d_addT, d_addL, d_sub, d_mul, d_fdiv, d_mod, d_augI, d_augSub, d_augL, c_eqI, c_eqS, c_neI, c_neS, c_lt, c_le, c_gt, c_ge, c_isn, c_isnn, c_isb, c_isnb, c_in, c_nin, in_tup, in_dic, eqF_S, eqF_I, tr_non, tr_bl, tr_int, tr_str, tr_tup, tr_rol, truC_l, truC_d, tr_cell, isi_non, isi_bl, isi_int, isi_str, isi_tup, isi_rol, isiC_l, isiC_d, isi_cell, isiT, isNonD, isBlD, ix_tup, ix_rol, ixC_l, ixC_d, ix_cell, sl_tup, sl_rol, sl_cell, setC_l, setC_d, set_cell, key_i, key_s, part_i, star_tup, star_rol, star_cell, it_tup, it_rol, it_cell, b_lenT, b_lenR, b_lenS, lenC_l, lenC_d, b_lenC, b_intI, b_intB, b_tupT, b_tupR, b_tupC, b_lstT, b_lstR, b_lstC, b_dict, b_isi, mo_join, mo_get, mo_append, mo_extend, mo_pop, mo_index, isStr_s, m_append, m_extend, m_pop, m_index, m_joinC, m_get1, m_get2, catL_ok, augL_ok, dicL_ok, appL_ok, extL_ok, capT_ok, capL_ok, le_big, lt_big, ok_var, ok_con, ok_glo, ok_gix, ok_tup, ok_lst, ok_dis, ok_bin, ok_neg, ok_cmp, ok_cmp2, ok_not, ok_and, ok_or, ok_ite, ok_call, ok_blt, ok_mth, ok_ix, ok_sl, ok_comp, pt_var, pt_con, pt_glo, pt_tup, pt_lst, pt_bin, pt_call, pt_blt, pt_mth, pt_ix, pt_sl, pt_comp, List.getElem?_cons_zero, List.getElem?_cons_succ, List.set_cons_zero, List.set_cons_succ, List.map_cons, List.map_nil, List.replicate_succ, List.replicate_zero, List.cons_append, List.nil_append, List.length_cons, List.length_nil, List.append_nil, Option.bind_some, Option.bind_none, Option.map_some, Option.map_none, Option.isSome_some, Option.isSome_none, Nat.reduceAdd, Nat.reduceSub, Nat.reduceLeDiff, Nat.reduceEqDiff, Nat.reduceLT, if_true, if_false, Bool.false_eq_true, Bool.and_true, Bool.true_and, Bool.and_false, Bool.false_and, Bool.not_true, Bool.not_false, Bool.or_true, Bool.true_or, Bool.or_false, Bool.false_or, Bool.and_self, ite_true, ite_false, decide_true, decide_false, reduceIte, Int.reduceLT, Int.reduceLE, Int.reduceNeg, Int.reducePow, Int.reduceEq, and_self, and_true, true_and, bl2]⟩)
  rw [List.nil_append] at cm
  generalize hl : (rngD 0 m).map (fun d => D.tup [.str z_label, d]) = ls at cm
  have hR : Rows ls := by
    rw [← hl]
    intro e he
    obtain ⟨d, hd, rfl⟩ := List.mem_map.mp he
    obtain ⟨i, rfl⟩ := rng_int hd
    exact ⟨_, _, ri_label⟩
  have ll : ls.length = m := by rw [← hl, List.length_map, rngD_len]
  have b2 : ls.length + 1 ≤ big := le_big (by omega)
  refine ⟨.tup [.str z_mx2el, .int 0, .int 0, .int (pkI xs n [.int 0, .int 1, .int 200]), .tup (ls ++ [.tup [.str z_go, .int 0]])], g ++ [Cell.lst [.int 0, .int 1, .int 200]] ++ [.lst ls], ⟨_, _, _, _, _, rfl, hR.app (Rows.one ri_go), by simp; omega⟩, ?_⟩
  have an5 : ∀ (d : D) (ρ : Rho), asgT (.nm 5) d ρ = some (ρ.set 5 (some d)) := fun _ _ => rfl
  simp only [T2, lawT, b_law, List.headD_cons, List.drop_succ_cons, List.drop_zero, x_asg, v_tup, v_lst, es_cons, es_nil, ok_con, v_con, ok_call, v_call, ok_var, v_var, ok_lst, ok_bin, v_bin, ok_tup, ok_blt, v_blt, ok_comp, v_comp, i_rng, List.getElem?_cons_zero, List.getElem?_cons_succ, x_bind, x_bindS, capL_ok, capT_ok, List.length_cons, List.length_nil, Nat.reduceAdd, bl1, bl2, bl3, bl5, List.cons_append, List.nil_append, pk, r5, cm, noE_ok, b_tupC, lst_C, get_new, lstC_l, Option.map_some, ofO_some, d_addT, b2, an5, List.set_cons_succ, List.set_cons_zero]
theorem T_ok (hn2 : n < 70000) : ∃ (n' : Nat) (c3' c4' c5' c6' c7' c8' c9' c10' c11' c12' : Option D) (g' : Mem), n ≤ n' ∧ n' ≤ n + 600 ∧ ∀ c4 : Option D, exSs (callP (runF PG k)) PG.con lawT [c0, some (.cell 1), c2, c3, c4, c5, c6, c7, c8, c9, c10, c11, c12, c13] (digC xs :: boxC 0 n :: g) =
    .ok (.nx [c0, some (.cell 1), c2, c3', c4', c5', c6', c7', c8', c9', c10', c11', c12', c13]) (digC xs :: boxC 0 n' :: g') := by
  obtain ⟨j, rfl, hj⟩ := k_succ hk
  obtain ⟨n1, f1, f2, a1, a2, a3, a4, a5, a6, a7⟩ := asm_call (k := j) (by omega) (xs := xs) (n := n) (by omega) (g := g)
  have lo := dr_lo (xs := xs) (at_ := n1) (m := 4) (by omega)
  have hi := dr_hi (xs := xs) (at_ := n1) (m := 4) (by omega)
  obtain ⟨b, g1, b1, b2⟩ := T2_ok (k := j + 1) hk (xs := xs) (n := n1 + 1) (by omega) (c0 := c0) (c2 := c2) (c3 := some (asmD f1 f2)) (c5 := c5) (c6 := c6) (c7 := c7) (c8 := c8) (c9 := c9) (c10 := c10) (c11 := c11) (c12 := c12) (c13 := c13) (g := g) (many := 1 + dr xs n1 4) (by omega) (by omega)
  obtain ⟨ρ', M', e1, c6', c7', c8', c9', c10', c11', c12', g', rfl, rfl⟩ := forL_inv (asg := asgT (.nm 6)) (body := exSs (callP (runF PG (j + 1))) PG.con lawF) (srcs := [])
    (fun _ ρ M => ∃ (c6' c7' c8' c9' c10' c11' c12' : Option D) (g' : Mem), ρ = [c0, some (.cell 1), c2, some (asmD f1 f2), some (.int (1 + dr xs n1 4)), some b, c6', c7', c8', c9', c10', c11', c12', c13] ∧ M = digC xs :: boxC 0 (n1 + 1 + 1) :: g')
    [f1, f2, b] 0 [c0, some (.cell 1), c2, some (asmD f1 f2), some (.int (1 + dr xs n1 4)), some b, c6, c7, c8, c9, c10, c11, c12, c13] (digC xs :: boxC 0 (n1 + 1 + 1) :: g1) ⟨_, _, _, _, _, _, _, _, rfl, rfl⟩ (fun _ _ _ _ => rfl) (by
      rintro i d ρ M hd ⟨c6', c7', c8', c9', c10', c11', c12', g', rfl, rfl⟩
      have hf : FnD d := by
        have := List.mem_of_getElem? hd
        simp only [List.mem_cons, List.not_mem_nil, or_false] at this
        rcases this with rfl | rfl | rfl <;> assumption
      obtain ⟨nm, x, y, s, rs, rfl, hR, hz⟩ := hf
      obtain ⟨q, hq⟩ := rw_of hR
      obtain ⟨c72, c82, c92, c102, c112, c122, g2, e2⟩ := F_ok (k := j + 1) hk (d0 := digC xs) (d1 := boxC 0 (n1 + 1 + 1)) (c0 := c0) (c1 := some (.cell 1)) (c2 := c2) (c3 := some (asmD f1 f2)) (c4 := some (.int (1 + dr xs n1 4))) (c5 := some b) (c7 := c7') (c8 := c8') (c9 := c9') (c10 := c10') (c11 := c11') (c12 := c12') (c13 := c13) (nm := nm) (a := x) (b := y) (s := s) hq hz (g := g')
      exact ⟨_, _, _, rfl, .inl e2, _, _, _, _, _, _, _, _, rfl, rfl⟩)
  refine ⟨n1 + 1 + 1, some (asmD f1 f2), some (.int (1 + dr xs n1 4)), some b, c6', c7', c8', c9', c10', c11', c12', g', by omega, by omega, fun c4 => ?_⟩
  have s0 : exS (callP (runF PG (j + 1))) PG.con (.asg (.nm 3) (.call 22 [(.var 1)])) [c0, some (.cell 1), c2, c3, c4, c5, c6, c7, c8, c9, c10, c11, c12, c13] (digC xs :: boxC 0 n :: g) = .ok (.nx [c0, some (.cell 1), c2, some (asmD f1 f2), c4, c5, c6, c7, c8, c9, c10, c11, c12, c13]) (digC xs :: boxC 0 n1 :: g) := by
    simp only [v_dcomp, v_gget, v_gin, v_gix2, i_enuE, i_zipE, lstC_f, ixC_f, m_extendT, ok_dcomp, ok_gget, ok_gin, ok_gix2, pt_dcomp, pt_gget, pt_gin, pt_gix2, x_bind, x_bindS, x_seq, x_seqR, x_seqB, x_seqC, x_nil, x_cons, x_asg, x_setx, x_aug, x_exp, x_ret, x_retn, x_iff, x_forr, x_brk, x_cont, x_pass, v_var, v_con, v_glo, v_gix, v_tup, v_lst, v_dis, v_bin, v_neg, v_cmp, v_cmp2, v_not, v_and, v_or, v_ite, v_call, v_blt, v_mth, v_ix, v_sl, v_comp, es_nil, es_cons, es_star, p_nop, p_e, i_rng, i_e, cs_nil, cs_cons, tt_e, tt_cmp, tt_cmp2, tt_not, tt_and, tt_or, tt_ite, valO_some, ofO_some, noE_ok, fin_rt, fin_nx, bl_tt, bl_ff, bl_tf, bl_ft, asgT, asgTs, wipeR, lst_C, dic_C, lstC_l, lstC_d, dicC_l, dicC_d, d_addI, d_addS, d_addT, d_addL, d_sub, d_mul, d_fdiv, d_mod, d_augI, d_augSub, d_augL, c_eqI, c_eqS, c_neI, c_neS, c_lt, c_le, c_gt, c_ge, c_isn, c_isnn, c_isb, c_isnb, c_in, c_nin, in_tup, in_dic, eqF_S, eqF_I, tr_non, tr_bl, tr_int, tr_str, tr_tup, tr_rol, truC_l, truC_d, tr_cell, isi_non, isi_bl, isi_int, isi_str, isi_tup, isi_rol, isiC_l, isiC_d, isi_cell, isiT, isNonD, isBlD, ix_tup, ix_rol, ixC_l, ixC_d, ix_cell, sl_tup, sl_rol, sl_cell, setC_l, setC_d, set_cell, key_i, key_s, part_i, star_tup, star_rol, star_cell, it_tup, it_rol, it_cell, b_lenT, b_lenR, b_lenS, lenC_l, lenC_d, b_lenC, b_intI, b_intB, b_tupT, b_tupR, b_tupC, b_lstT, b_lstR, b_lstC, b_dict, b_isi, mo_join, mo_get, mo_append, mo_extend, mo_pop, mo_index, isStr_s, m_append, m_extend, m_pop, m_index, m_joinC, m_get1, m_get2, catL_ok, augL_ok, dicL_ok, appL_ok, extL_ok, capT_ok, capL_ok, le_big, lt_big, ok_var, ok_con, ok_glo, ok_gix, ok_tup, ok_lst, ok_dis, ok_bin, ok_neg, ok_cmp, ok_cmp2, ok_not, ok_and, ok_or, ok_ite, ok_call, ok_blt, ok_mth, ok_ix, ok_sl, ok_comp, pt_var, pt_con, pt_glo, pt_tup, pt_lst, pt_bin, pt_call, pt_blt, pt_mth, pt_ix, pt_sl, pt_comp, List.getElem?_cons_zero, List.getElem?_cons_succ, List.set_cons_zero, List.set_cons_succ, List.map_cons, List.map_nil, List.replicate_succ, List.replicate_zero, List.cons_append, List.nil_append, List.length_cons, List.length_nil, List.append_nil, Option.bind_some, Option.bind_none, Option.map_some, Option.map_none, Option.isSome_some, Option.isSome_none, Nat.reduceAdd, Nat.reduceSub, Nat.reduceLeDiff, Nat.reduceEqDiff, Nat.reduceLT, if_true, if_false, Bool.false_eq_true, Bool.and_true, Bool.true_and, Bool.and_false, Bool.false_and, Bool.not_true, Bool.not_false, Bool.or_true, Bool.true_or, Bool.or_false, Bool.false_or, Bool.and_self, ite_true, ite_false, decide_true, decide_false, reduceIte, Int.reduceLT, Int.reduceLE, Int.reduceNeg, Int.reducePow, Int.reduceEq, and_self, and_true, true_and, a7, asmD]
  have s1 : exS (callP (runF PG (j + 1))) PG.con (.asg (.nm 4) (.bin .add (.con (.int 1)) (.call 1 [(.var 1), (.con (.int 4))]))) [c0, some (.cell 1), c2, some (asmD f1 f2), c4, c5, c6, c7, c8, c9, c10, c11, c12, c13] (digC xs :: boxC 0 n1 :: g) = .ok (.nx [c0, some (.cell 1), c2, some (asmD f1 f2), some (.int (1 + dr xs n1 4)), c5, c6, c7, c8, c9, c10, c11, c12, c13]) (digC xs :: boxC 0 (n1 + 1) :: g) := by
    have k1 : 1 ≤ j + 1 := by omega
    have n0 : n1 < 1000000000000 := by omega
    simp only [v_dcomp, v_gget, v_gin, v_gix2, i_enuE, i_zipE, lstC_f, ixC_f, m_extendT, ok_dcomp, ok_gget, ok_gin, ok_gix2, pt_dcomp, pt_gget, pt_gin, pt_gix2, x_bind, x_bindS, x_seq, x_seqR, x_seqB, x_seqC, x_nil, x_cons, x_asg, x_setx, x_aug, x_exp, x_ret, x_retn, x_iff, x_forr, x_brk, x_cont, x_pass, v_var, v_con, v_glo, v_gix, v_tup, v_lst, v_dis, v_bin, v_neg, v_cmp, v_cmp2, v_not, v_and, v_or, v_ite, v_call, v_blt, v_mth, v_ix, v_sl, v_comp, es_nil, es_cons, es_star, p_nop, p_e, i_rng, i_e, cs_nil, cs_cons, tt_e, tt_cmp, tt_cmp2, tt_not, tt_and, tt_or, tt_ite, valO_some, ofO_some, noE_ok, fin_rt, fin_nx, bl_tt, bl_ff, bl_tf, bl_ft, asgT, asgTs, wipeR, lst_C, dic_C, lstC_l, lstC_d, dicC_l, dicC_d, d_addI, d_addS, d_addT, d_addL, d_sub, d_mul, d_fdiv, d_mod, d_augI, d_augSub, d_augL, c_eqI, c_eqS, c_neI, c_neS, c_lt, c_le, c_gt, c_ge, c_isn, c_isnn, c_isb, c_isnb, c_in, c_nin, in_tup, in_dic, eqF_S, eqF_I, tr_non, tr_bl, tr_int, tr_str, tr_tup, tr_rol, truC_l, truC_d, tr_cell, isi_non, isi_bl, isi_int, isi_str, isi_tup, isi_rol, isiC_l, isiC_d, isi_cell, isiT, isNonD, isBlD, ix_tup, ix_rol, ixC_l, ixC_d, ix_cell, sl_tup, sl_rol, sl_cell, setC_l, setC_d, set_cell, key_i, key_s, part_i, star_tup, star_rol, star_cell, it_tup, it_rol, it_cell, b_lenT, b_lenR, b_lenS, lenC_l, lenC_d, b_lenC, b_intI, b_intB, b_tupT, b_tupR, b_tupC, b_lstT, b_lstR, b_lstC, b_dict, b_isi, mo_join, mo_get, mo_append, mo_extend, mo_pop, mo_index, isStr_s, m_append, m_extend, m_pop, m_index, m_joinC, m_get1, m_get2, catL_ok, augL_ok, dicL_ok, appL_ok, extL_ok, capT_ok, capL_ok, le_big, lt_big, ok_var, ok_con, ok_glo, ok_gix, ok_tup, ok_lst, ok_dis, ok_bin, ok_neg, ok_cmp, ok_cmp2, ok_not, ok_and, ok_or, ok_ite, ok_call, ok_blt, ok_mth, ok_ix, ok_sl, ok_comp, pt_var, pt_con, pt_glo, pt_tup, pt_lst, pt_bin, pt_call, pt_blt, pt_mth, pt_ix, pt_sl, pt_comp, List.getElem?_cons_zero, List.getElem?_cons_succ, List.set_cons_zero, List.set_cons_succ, List.map_cons, List.map_nil, List.replicate_succ, List.replicate_zero, List.cons_append, List.nil_append, List.length_cons, List.length_nil, List.append_nil, Option.bind_some, Option.bind_none, Option.map_some, Option.map_none, Option.isSome_some, Option.isSome_none, Nat.reduceAdd, Nat.reduceSub, Nat.reduceLeDiff, Nat.reduceEqDiff, Nat.reduceLT, if_true, if_false, Bool.false_eq_true, Bool.and_true, Bool.true_and, Bool.and_false, Bool.false_and, Bool.not_true, Bool.not_false, Bool.or_true, Bool.true_or, Bool.or_false, Bool.false_or, Bool.and_self, ite_true, ite_false, decide_true, decide_false, reduceIte, Int.reduceLT, Int.reduceLE, Int.reduceNeg, Int.reducePow, Int.reduceEq, and_self, and_true, true_and, x_drawL gf__law_draw k1, n0]
  rw [lawT_eq, x_cons, s0, x_seq, x_cons, s1, x_seq, x_cons, b2, x_seq, x_cons]
  have s3 : exS (callP (runF PG (j + 1))) PG.con (.forr (.nm 6) (.bin .add (.ix (.var 3) (.con (.int 2))) (.tup [(.var 5)])) lawF) [c0, some (.cell 1), c2, some (asmD f1 f2), some (.int (1 + dr xs n1 4)), some b, c6, c7, c8, c9, c10, c11, c12, c13] (digC xs :: boxC 0 (n1 + 1 + 1) :: g1) = .ok (.nx [c0, some (.cell 1), c2, some (asmD f1 f2), some (.int (1 + dr xs n1 4)), some b, c6', c7', c8', c9', c10', c11', c12', c13]) (digC xs :: boxC 0 (n1 + 1 + 1) :: g') := by
    simp only [asmD] at e1 ⊢
    simp only [x_forr, i_e, ok_bin, v_bin, v_ix, v_tup, es_cons, es_nil, ok_var, v_var, v_con, List.getElem?_cons_zero, List.getElem?_cons_succ, x_bind, x_bindS, ix_tup, at_2, valO_some, capT_ok, List.length_cons, List.length_nil, Nat.reduceAdd, bl1, bl3, d_addT, List.cons_append, List.nil_append, ofO_some, it_tup]
    exact e1
  rw [s3, x_seq, x_nil]
end
theorem run_law (ns : List Int) : ∃ M, runF PG (99 + 1) 24 [.rol (ns.map .int)] [] = .ok (.bl true) M := by
  obtain ⟨xs, hx⟩ := s_digits gf__law_digits (k := 99) (by decide) ns
  obtain ⟨ρ', M', e1, n', c2, c3, c4, c5, c6, c7, c8, c9, c10, c11, c12, g', rfl, rfl, hn⟩ := forL_inv (asg := asgT (.nm 2)) (body := exSs (callP (runF PG 99)) PG.con lawT) (srcs := [])
    (fun j ρ M => ∃ (n' : Nat) (c2 c3 c4 c5 c6 c7 c8 c9 c10 c11 c12 : Option D) (g' : Mem), ρ = [some (.rol (ns.map .int)), some (.cell 1), c2, c3, c4, c5, c6, c7, c8, c9, c10, c11, c12, none] ∧ M = digC xs :: boxC 0 n' :: g' ∧ n' ≤ 600 * j)
    (rngD 0 3) 0 [some (.rol (ns.map .int)), some (.cell 1), none, none, none, none, none, none, none, none, none, none, none, none] [digC xs, boxC 0 0] ⟨0, _, _, _, _, _, _, _, _, _, _, _, _, rfl, rfl, by omega⟩ (fun _ _ _ _ => rfl) (by
      rintro j d ρ M hd ⟨n', c2, c3, c4, c5, c6, c7, c8, c9, c10, c11, c12, g', rfl, rfl, hn⟩
      have hj : j < 3 := by
        have := (List.getElem?_eq_some_iff.mp hd).1
        rwa [rngD_len] at this
      obtain ⟨n2, c32, c42, c52, c62, c72, c82, c92, c102, c112, c122, g2, q1, q2, q3⟩ := T_ok (k := 99) (by omega) (xs := xs) (n := n') (by omega) (hn2 := by omega) (c0 := some (.rol (ns.map .int))) (c2 := some d) (c3 := c3) (c5 := c5) (c6 := c6) (c7 := c7) (c8 := c8) (c9 := c9) (c10 := c10) (c11 := c11) (c12 := c12) (c13 := none) (g := g')
      exact ⟨_, _, _, rfl, .inl (q3 c4), n2, some d, c32, c42, c52, c62, c72, c82, c92, c102, c112, c122, g2, rfl, rfl, by omega⟩)
  refine ⟨digC xs :: boxC 0 n' :: g', ?_⟩
  rw [run_of gf_law rfl]
  have h1 : exS (callP (runF PG 99)) PG.con (.asg (.nm 1) (.lst [(.call 0 [(.var 0), (.con (.int 0)), (.con (.int 63))]), (.con (.int 0))])) [some (.rol (ns.map .int)), none, none, none, none, none, none, none, none, none, none, none, none, none] [] = .ok (.nx [some (.rol (ns.map .int)), some (.cell 1), none, none, none, none, none, none, none, none, none, none, none, none]) [digC xs, boxC 0 0] := by
    simp only [v_dcomp, v_gget, v_gin, v_gix2, i_enuE, i_zipE, lstC_f, ixC_f, m_extendT, ok_dcomp, ok_gget, ok_gin, ok_gix2, pt_dcomp, pt_gget, pt_gin, pt_gix2, x_bind, x_bindS, x_seq, x_seqR, x_seqB, x_seqC, x_nil, x_cons, x_asg, x_setx, x_aug, x_exp, x_ret, x_retn, x_iff, x_forr, x_brk, x_cont, x_pass, v_var, v_con, v_glo, v_gix, v_tup, v_lst, v_dis, v_bin, v_neg, v_cmp, v_cmp2, v_not, v_and, v_or, v_ite, v_call, v_blt, v_mth, v_ix, v_sl, v_comp, es_nil, es_cons, es_star, p_nop, p_e, i_rng, i_e, cs_nil, cs_cons, tt_e, tt_cmp, tt_cmp2, tt_not, tt_and, tt_or, tt_ite, valO_some, ofO_some, noE_ok, fin_rt, fin_nx, bl_tt, bl_ff, bl_tf, bl_ft, asgT, asgTs, wipeR, lst_C, dic_C, lstC_l, lstC_d, dicC_l, dicC_d, d_addI, d_addS, d_addT, d_addL, d_sub, d_mul, d_fdiv, d_mod, d_augI, d_augSub, d_augL, c_eqI, c_eqS, c_neI, c_neS, c_lt, c_le, c_gt, c_ge, c_isn, c_isnn, c_isb, c_isnb, c_in, c_nin, in_tup, in_dic, eqF_S, eqF_I, tr_non, tr_bl, tr_int, tr_str, tr_tup, tr_rol, truC_l, truC_d, tr_cell, isi_non, isi_bl, isi_int, isi_str, isi_tup, isi_rol, isiC_l, isiC_d, isi_cell, isiT, isNonD, isBlD, ix_tup, ix_rol, ixC_l, ixC_d, ix_cell, sl_tup, sl_rol, sl_cell, setC_l, setC_d, set_cell, key_i, key_s, part_i, star_tup, star_rol, star_cell, it_tup, it_rol, it_cell, b_lenT, b_lenR, b_lenS, lenC_l, lenC_d, b_lenC, b_intI, b_intB, b_tupT, b_tupR, b_tupC, b_lstT, b_lstR, b_lstC, b_dict, b_isi, mo_join, mo_get, mo_append, mo_extend, mo_pop, mo_index, isStr_s, m_append, m_extend, m_pop, m_index, m_joinC, m_get1, m_get2, catL_ok, augL_ok, dicL_ok, appL_ok, extL_ok, capT_ok, capL_ok, le_big, lt_big, ok_var, ok_con, ok_glo, ok_gix, ok_tup, ok_lst, ok_dis, ok_bin, ok_neg, ok_cmp, ok_cmp2, ok_not, ok_and, ok_or, ok_ite, ok_call, ok_blt, ok_mth, ok_ix, ok_sl, ok_comp, pt_var, pt_con, pt_glo, pt_tup, pt_lst, pt_bin, pt_call, pt_blt, pt_mth, pt_ix, pt_sl, pt_comp, List.getElem?_cons_zero, List.getElem?_cons_succ, List.set_cons_zero, List.set_cons_succ, List.map_cons, List.map_nil, List.replicate_succ, List.replicate_zero, List.cons_append, List.nil_append, List.length_cons, List.length_nil, List.append_nil, Option.bind_some, Option.bind_none, Option.map_some, Option.map_none, Option.isSome_some, Option.isSome_none, Nat.reduceAdd, Nat.reduceSub, Nat.reduceLeDiff, Nat.reduceEqDiff, Nat.reduceLT, if_true, if_false, Bool.false_eq_true, Bool.and_true, Bool.true_and, Bool.and_false, Bool.false_and, Bool.not_true, Bool.not_false, Bool.or_true, Bool.true_or, Bool.or_false, Bool.false_or, Bool.and_self, ite_true, ite_false, decide_true, decide_false, reduceIte, Int.reduceLT, Int.reduceLE, Int.reduceNeg, Int.reducePow, Int.reduceEq, and_self, and_true, true_and, hx, bl2]
    rfl
  have r3 : ∀ M : Mem, rngI M [.int 3] = .ok ([], rngD 0 3) M := fun _ => rfl
  have h2 : exS (callP (runF PG 99)) PG.con (.forr (.nm 2) (.rng [(.con (.int 3))]) lawT) [some (.rol (ns.map .int)), some (.cell 1), none, none, none, none, none, none, none, none, none, none, none, none] [digC xs, boxC 0 0] = .ok (.nx [some (.rol (ns.map .int)), some (.cell 1), c2, c3, c4, c5, c6, c7, c8, c9, c10, c11, c12, none]) (digC xs :: boxC 0 n' :: g') := by
    simp only [x_forr, i_rng, es_cons, es_nil, ok_con, v_con, x_bind, x_bindS, r3]
    exact e1
  show fin (exSs _ _ [_, .forr (.nm 2) (.rng [(.con (.int 3))]) lawT, .ret (.con (.bl true))] [some (.rol (ns.map .int)), none, none, none, none, none, none, none, none, none, none, none, none, none] []) = _
  rw [x_cons, h1, x_seq, x_cons, h2, x_seq]
  rfl
theorem law_true (ns : List Int) (h : ns.length ≤ 63) (hb : ∀ z ∈ ns, Builtin.Int.intBits z ≤ 1048576) : ∃ M, callP (runF (pgOf rows cons dics) 100) r_law.f [.rol (ns.map .int)] [] = .ok (.bl true) M := by
  obtain ⟨M, h⟩ := run_law ns
  exact ⟨[], callP_pure (by simp [D.pures, D.pure, pures_ints]) h rfl⟩
end Lk02

namespace Lk02
open PySem J
def loose : List Str := (["OPS", "PLAIN", "WORDS", "MORE", "head_word", "size_of", "parts_of_row", "words_of_row", "words_of_function", "offsets_of", "label_offsets", "_law_digits", "_law_draw", "_law_pick", "_law_like", "_law_row", "_law_asm_function", "_law_asm", "_law_number", "_law_size"] : List Str)
abbrev hk : PySem.W.Hook := He.hookX 4 (faOf rows frs) (rows.map Row.dd) (tsOf dics) [] (exOf cons dics)
def ob (s : PySem.W.SharedT) : He.AlX := He.obsX 4 (faOf rows frs) (rows.map Row.dd) (tsOf dics) [] (exOf cons dics) (HandSHeadRun.getT s)
theorem ob_eq (s : PySem.W.SharedT) : ob s = hk.obs s.abs := He.obsX_eq (HandSHeadRun.getT_eq s)
abbrev RR : PySem.W.OpenRow := PySem.W.OpenLaw.row PySem.Challenge.rw_stairwright_k02_words_and_offsets
theorem run0 (w : World) : HandSHeadRun.RunEq RR (PySem.W.view RR.prog [22]) hk ob 100000 loose (w.withFollow "special-get-raises" false) := by
  intro os
  kernel_rfl
theorem run1 (w : World) : HandSHeadRun.RunEq RR (PySem.W.view RR.prog [22]) hk ob 100000 loose (w.withFollow "special-get-raises" true) := by
  intro os
  kernel_rfl
theorem run (w : World) : HandSHeadRun.RunEq RR (PySem.W.view RR.prog [22]) hk ob 100000 loose w := by
  have e := World.withFollow_self w "special-get-raises"
  cases hb : w.params.followText "special-get-raises" <;> rw [hb] at e
  · exact Eq.mp (congrArg (HandSHeadRun.RunEq RR (PySem.W.view RR.prog [22]) hk ob 100000 loose) e) (run0 w)
  · exact Eq.mp (congrArg (HandSHeadRun.RunEq RR (PySem.W.view RR.prog [22]) hk ob 100000 loose) e) (run1 w)
end Lk02
open PySem PySem.W
open PySem.Calls PyProof.Rows
theorem PySem.Challenge.cw_stairwright_k02_words_and_offsets_holds : PySem.Challenge.rw_stairwright_k02_words_and_offsets.Holds := by
  w_on; o_law
  refine HandSHeadRun.head_any (r := OpenLaw.row PySem.Challenge.rw_stairwright_k02_words_and_offsets) (q := view (OpenLaw.row PySem.Challenge.rw_stairwright_k02_words_and_offsets).prog [22]) (H := Lk02.hk) (ob := Lk02.ob) (M := 100000) (loose := Lk02.loose) (d := HandSHeadRun.topDef (OpenLaw.row PySem.Challenge.rw_stairwright_k02_words_and_offsets).prog 22) (kwd := []) Lk02.ob_eq
    (by kernel_rfl) (fun s => by kernel_rfl) Lk02.run (by kernel_rfl) (by kernel_rfl) (by kernel_rfl) (by rfl) (by first | assumption | decide +kernel) (by decide +kernel) ⟨rfl, rfl, rfl, rfl, rfl, by decide +kernel⟩ ?hw ?hc
  case hw => w_witness2
  case hc => exact J.walkJ (l := PySem.Challenge.rw_stairwright_k02_words_and_offsets) (n := 63) (k := 100) (x := Lk02.z_script) (r := Lk02.r_law) rfl (by decide) (by kernel_rfl) ⟨rfl, by decide, by decide⟩ (by kernel_rfl) (by simp [Lk02.rows]) rfl (by decide +kernel) Lk02.oks Lk02.law_true

