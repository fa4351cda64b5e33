import PyProof.Rows.All
import Wide.All
import OpenK.AllK
import Wide.FinOn
import HandS.Base
import HandS.Call
import HandS.List
import HandS.Comp
import HandS.Exc
import HandS.Ends
import HandS.Words
import HandS.Flow
import HandS.Style
import HandS.Wide
import HandS.TupAny
import HandS.TupMul
import PyProof.WalksMore
import PyProof.SumWalkG
import KE.DataMinMax
import HandS.IsInst
import PyProof.ReprRoads
import PyProof.CallFns
import HandS.Rev
import HandS.Zip
import HandS.Walk
import HandS.WordsExc
import KE.KRevSl
import KE.GoesEnum
import HandS.Star
import HandS.WordsList
import HandS.Codes
import PySem.Challenge.RW_nonewturns_k05_differences_and_peaks
set_option Elab.async false
set_option linter.all false
set_option maxRecDepth 100000
set_option maxHeartbeats 4000000
/-! A small language of values, cells and slots, and what its texts do. -/
namespace PD
open PySem

abbrev Key := L2.Key
/-- a value: data, an own object that stands, the place of a cell; scr: the locked list that the law is handed -/
inductive D where
  | non | bl (b : Bool) | int (i : Int) | str (s : Str)
  | tup (xs : List D) | lst (xs : List D) | scr (xs : List D) | dct (ks : List Key) (vs : List D)
  | ins (c : Nat) (ns : List Str) (vs : List D) | loc (n : Nat)
  deriving Inhabited
/-- what may be changed -/
inductive Cell where
  | lst (xs : List D) | dct (ks : List Key) (vs : List D) | obj (c : Nat) (ns : List Str) (vs : List D)
abbrev Store := List Cell
inductive Out (α : Type) where
  | ok (a : α) (st : Store) | exc (c : Nat) (xs : List D) (st : Store) | bad
abbrev M (α : Type) := Store → Out α
abbrev En := List (Option D)
def rtn {α : Type} (a : α) : M α := fun st => .ok a st
def badM {α : Type} : M α := fun _ => .bad
def bnd {α β : Type} (m : M α) (f : α → M β) : M β := fun st => match m st with
  | .ok a s => f a s
  | .exc c x s => .exc c x s
  | .bad => .bad
/-- an expression's outcome: a value, a list just made, what a loop walks (its items, the cells that must stay) -/
inductive R where
  | d (x : D) | fr (xs : List D) | it (xs : List D) (w : List Nat)
def R.val : R → D
  | .d x => x
  | .fr xs => .lst xs
  | .it _ _ => .non

/-! ### equality by look -/
mutual
def D.beq : D → D → Bool
  | .non, b => match b with
    | .non => true
    | _ => false
  | .bl a, b => match b with
    | .bl b => a == b
    | _ => false
  | .int a, b => match b with
    | .int b => a == b
    | _ => false
  | .str a, b => match b with
    | .str b => a == b
    | _ => false
  | .tup a, b => match b with
    | .tup b => beqL a b
    | _ => false
  | .lst a, b => match b with
    | .lst b => beqL a b
    | _ => false
  | .scr a, b => match b with
    | .scr b => beqL a b
    | _ => false
  | .dct k a, b => match b with
    | .dct k' b => decide (k = k') && beqL a b
    | _ => false
  | .ins c k a, b => match b with
    | .ins c' k' b => c == c' && decide (k = k') && beqL a b
    | _ => false
  | .loc a, b => match b with
    | .loc b => a == b
    | _ => false
def beqL : List D → List D → Bool
  | [], b => match b with
    | [] => true
    | _ => false
  | a :: as, b => match b with
    | b :: bs => D.beq a b && beqL as bs
    | _ => false
end
mutual
theorem D.of_beq : ∀ {a b : D}, D.beq a b = true → a = b
  | .non, b, h => by cases b <;> simp [D.beq] at h ⊢
  | .bl a, b, h => by cases b <;> simp [D.beq] at h ⊢; exact h
  | .int a, b, h => by cases b <;> simp [D.beq] at h ⊢; exact h
  | .str a, b, h => by cases b <;> simp [D.beq] at h ⊢; exact h
  | .tup a, b, h => by cases b <;> simp [D.beq] at h ⊢; exact of_beqL h
  | .lst a, b, h => by cases b <;> simp [D.beq] at h ⊢; exact of_beqL h
  | .scr a, b, h => by cases b <;> simp [D.beq] at h ⊢; exact of_beqL h
  | .dct k a, b, h => by cases b <;> simp [D.beq] at h ⊢; exact ⟨h.1, of_beqL h.2⟩
  | .ins c k a, b, h => by cases b <;> simp [D.beq] at h ⊢; exact ⟨h.1.1, h.1.2, of_beqL h.2⟩
  | .loc a, b, h => by cases b <;> simp [D.beq] at h ⊢; exact h
theorem of_beqL : ∀ {a b : List D}, beqL a b = true → a = b
  | [], b, h => by cases b <;> simp [beqL] at h ⊢
  | a :: as, b, h => by
    cases b <;> simp [beqL] at h ⊢
    exact ⟨D.of_beq h.1, of_beqL h.2⟩
end
mutual
theorem D.beq_refl : ∀ a : D, D.beq a a = true
  | .non => by simp [D.beq]
  | .bl a => by simp [D.beq]
  | .int a => by simp [D.beq]
  | .str a => by simp [D.beq]
  | .tup a => by simp [D.beq, beqL_refl a]
  | .lst a => by simp [D.beq, beqL_refl a]
  | .scr a => by simp [D.beq, beqL_refl a]
  | .dct k a => by simp [D.beq, beqL_refl a]
  | .ins c k a => by simp [D.beq, beqL_refl a]
  | .loc a => by simp [D.beq]
theorem beqL_refl : ∀ a : List D, beqL a a = true
  | [] => by simp [beqL]
  | a :: as => by simp [beqL, D.beq_refl a, beqL_refl as]
end
def Cell.beq (a b : Cell) : Bool := match a, b with
  | .lst a, .lst b => beqL a b
  | .dct k a, .dct k' b => decide (k = k') && beqL a b
  | .obj c k a, .obj c' k' b => c == c' && decide (k = k') && beqL a b
  | _, _ => false
theorem Cell.of_beq {a b : Cell} (h : Cell.beq a b = true) : a = b := by
  cases a <;> cases b <;> simp [Cell.beq] at h ⊢
  · exact of_beqL h
  · exact ⟨h.1, of_beqL h.2⟩
  · exact ⟨h.1.1, h.1.2, of_beqL h.2⟩
theorem Cell.beq_refl (a : Cell) : Cell.beq a a = true := by
  cases a <;> simp [Cell.beq, beqL_refl]

/-! ### places below a number -/
mutual
def D.low (n : Nat) : D → Bool
  | .non | .bl _ | .int _ | .str _ => true
  | .tup xs | .lst xs | .scr xs | .dct _ xs | .ins _ _ xs => lowL n xs
  | .loc m => decide (m < n)
def lowL (n : Nat) : List D → Bool
  | [] => true
  | a :: as => D.low n a && lowL n as
end
def Cell.low (n : Nat) : Cell → Bool
  | .lst xs | .dct _ xs | .obj _ _ xs => lowL n xs
/-- each old cell is as it was, or holds places below n -/
def oldOk (n : Nat) : Store → Store → Bool
  | [], _ => true
  | _ :: _, [] => false
  | c :: s, c' :: s' => (Cell.beq c c' || Cell.low n c') && oldOk n s s'
theorem oldOk_refl (n : Nat) : ∀ s t : Store, oldOk n s (s ++ t) = true
  | [], _ => by
    show oldOk n [] _ = true
    unfold oldOk; rfl
  | c :: s, t => by
    show ((Cell.beq c c || Cell.low n c) && oldOk n s (s ++ t)) = true
    rw [Cell.beq_refl, oldOk_refl n s t]; rfl

/-! ### data -/
mutual
def D.py : D → Option PyData
  | .non => some .none
  | .bl b => some (.bool b)
  | .int i => some (.int i)
  | .str x => some (.str x)
  | .tup xs => (pyL xs).map .tuple
  | .lst xs => (pyL xs).map .list
  | .scr _ | .dct _ _ | .ins _ _ _ | .loc _ => none
def pyL : List D → Option (List PyData)
  | [] => some []
  | a :: as => match D.py a, pyL as with
    | some x, some xs => some (x :: xs)
    | _, _ => none
end
def pyS (st : Store) : D → Option PyData
  | .loc n => match st[n]? with
    | some (.lst xs) => (pyL xs).map .list
    | _ => none
  | d => d.py
def seqOf (st : Store) : D → Option (List D)
  | .tup xs | .lst xs | .scr xs => some xs
  | .loc n => match st[n]? with
    | some (.lst xs) => some xs
    | _ => none
  | _ => none
/-- a list: its items -/
def lstOf (st : Store) : D → Option (List D)
  | .lst xs => some xs
  | .loc n => match st[n]? with
    | some (.lst xs) => some xs
    | _ => none
  | _ => none
def lim (n : Nat) : Bool := decide (n ≤ 1000000)
/-- two ints may be multiplied -/
def mulOk (i j : Int) : Bool :=
  (decide (-(2 ^ 64) < i) && decide (i < 2 ^ 64)) || (decide (-(2 ^ 64) < j) && decide (j < 2 ^ 64)) || decide (i.natAbs.log2 + j.natAbs.log2 < 1000000)
def divOk (j : Int) : Bool := decide (j ≠ 0) && decide (j.natAbs.log2 < 9000)

inductive BOp where | add | sub | mul | fdiv | mod | pow
inductive COp where | eq | ne | lt | le | gt | ge | is | isn | inn | nin
inductive Bi where | len | tuple | list | int | str | repr | sum | max | min | abs | all | any | sorted
inductive Mt where | append | extend | pop | insert | join | split | get | index | count | upper | replace
inductive Pr where | none | bool | int | str | tuple | list | dict
  deriving DecidableEq
def Pr.nm : Pr → String
  | .none => "NoneType"
  | .bool => "bool"
  | .int => "int"
  | .str => "str"
  | .tuple => "tuple"
  | .list => "list"
  | .dict => "dict"
def prB (a b : Pr) : Bool := decide (a = b) || (decide (a = .bool) && decide (b = .int))
inductive Ty where | pr (n : Pr) | cl (c : Nat) | ex (c : Nat)
inductive Tg where | nm (i : Nat) | tp (is : List Nat)

inductive E where
  | var (i : Nat) | cst (d : D) | glo (x : Str) (d : D)
  | nil | cons (a b : E) | star (a b : E)
  | tup (es : E) | lst (es : E)
  | bin (op : BOp) (a b : E) | neg (a : E)
  | cmp (op : COp) (a b : E) | chn (o p : COp) (a b c : E)
  | and (a b : E) | or (a b : E) | one (a : E) | not (a : E) | ite (c a b : E)
  | idx (a i : E) | key (a : E) (k : Str) | slc (a : E) (l : Bool) (lo : E) (h : Bool) (hi : E) | rev (a : E)
  | call (f : Nat) (es : E) | callk (f : Nat) (es : E) (ks : List Str) (perm : List Nat)
  | bi (b : Bi) (es : E) | mth (m : Mt) (o es : E)
  | comp (elt : E) (tg : Tg) (it cond : E) (own : List Nat)
  | newl (a : E) | newd (ks : List Key) (es : E)
  | itv (a : E) | rng (es : E) | enu (a : E) (from_ : Int) | zip (a b : E) | zips (a b : E)
  | isi (a : E) (t : Ty) | isit (a : E) (ts : List Ty)
  | fld (o : E) (f : Str) | mcl (o : E) (m : Str) (es : E) | mkn (c : Nat) (es : E)

def D.items : D → List D
  | .tup xs => xs
  | _ => []
abbrev ixN := L2.ixN
def cutL {α : Type} (xs : List α) (lo hi : Option Int) : List α :=
  (xs.drop (HT.sIx xs.length 0 lo)).take (HT.sIx xs.length xs.length hi - HT.sIx xs.length 0 lo)

/-! ### operators -/
def ltD (d : D) : M R := rtn (.d d)
def addM (x y : D) : M R := match x, y with
  | .int i, .int j => rtn (.d (.int (i + j)))
  | .int i, .bl b => rtn (.d (.int (i + if b then 1 else 0)))
  | .str a, .str b => if lim (a.length + b.length) then rtn (.d (.str (a ++ b))) else badM
  | .tup a, .tup b => if lim (a.length + b.length) then rtn (.d (.tup (a ++ b))) else badM
  | x, y => fun st => match lstOf st x, lstOf st y with
    | some a, some b => if lim (a.length + b.length) then .ok (.fr (a ++ b)) st else .bad
    | _, _ => .bad
def mulM (x y : D) : M R := match x, y with
  | .int i, .int j => if mulOk i j then rtn (.d (.int (i * j))) else badM
  | .tup a, .int k => if lim (a.length * k.toNat) && lim k.natAbs then rtn (.d (.tup (List.replicate k.toNat a).flatten)) else badM
  | x, .int k => fun st => match lstOf st x with
    | some a => if lim (a.length * k.toNat) && lim k.natAbs then .ok (.fr (List.replicate k.toNat a).flatten) st else .bad
    | none => .bad
  | _, _ => badM
def binM (op : BOp) (x y : D) : M R := match op with
  | .add => addM x y
  | .mul => mulM x y
  | .sub => match x, y with
    | .int i, .int j => rtn (.d (.int (i - j)))
    | _, _ => badM
  | .fdiv => match x, y with
    | .int i, .int j => if divOk j then rtn (.d (.int (i.fdiv j))) else badM
    | _, _ => badM
  | .mod => match x, y with
    | .int i, .int j => if decide (j ≠ 0) then rtn (.d (.int (i.fmod j))) else badM
    | _, _ => badM
  | .pow => match x, y with
    | .int i, .int j => if decide (0 ≤ j) && decide ((Builtin.Int.intBits i : Int) * j ≤ 2 ^ 27) then rtn (.d (.int (i ^ j.toNat))) else badM
    | _, _ => badM
def eqS (st : Store) (x y : D) : Option Bool := match pyS st x, pyS st y with
  | some p, some q => if SeqAt.shaped p && SeqAt.shaped q then some (PyData.eqv p q) else none
  | _, _ => none
def cmpS (op : COp) (x y : D) (st : Store) : Option Bool := match op with
  | .eq => eqS st x y
  | .ne => (eqS st x y).map (!·)
  | .lt => match x, y with
    | .int i, .int j => some (decide (i < j))
    | _, _ => none
  | .le => match x, y with
    | .int i, .int j => some (decide (i ≤ j))
    | _, _ => none
  | .gt => match x, y with
    | .int i, .int j => some (decide (j < i))
    | _, _ => none
  | .ge => match x, y with
    | .int i, .int j => some (decide (j ≤ i))
    | _, _ => none
  | .is => match x, y with
    | .non, .non => some true
    | _, .non => some false
    | .bl a, .bl b => some (decide (a = b))
    | _, _ => none
  | .isn => match x, y with
    | .non, .non => some false
    | _, .non => some true
    | .bl a, .bl b => some (!decide (a = b))
    | _, _ => none
  | .inn => none
  | .nin => none
def cmpM (op : COp) (x y : D) : M Bool := fun st => match cmpS op x y st with
  | some b => .ok b st
  | none => .bad
def truS (st : Store) : D → Option Bool
  | .non => some false
  | .bl b => some b
  | .int i => some (i != 0)
  | .str _ => none
  | .tup xs | .lst xs => some (!xs.isEmpty)
  | .loc n => match st[n]? with
    | some (.lst xs) => some (!xs.isEmpty)
    | _ => none
  | _ => none
def truM (d : D) : M Bool := fun st => match truS st d with
  | some b => .ok b st
  | none => .bad
def blM (m : M Bool) : M R := bnd m fun b => rtn (.d (.bl b))

/-! ### built-in functions -/
def intsOf : List D → Option (List Int)
  | [] => some []
  | .int i :: r => (intsOf r).map (i :: ·)
  | _ :: _ => none
def blsOf : List D → Option (List Bool)
  | [] => some []
  | .bl b :: r => (blsOf r).map (b :: ·)
  | _ :: _ => none
def maxI : Int → List Int → Int
  | m, [] => m
  | m, x :: r => maxI (if x > m then x else m) r
def minI : Int → List Int → Int
  | m, [] => m
  | m, x :: r => minI (if x < m then x else m) r
def biM (b : Bi) (xs : List D) : M R := fun st => match b, xs with
  | .len, [x] => match seqOf st x with
    | some ys => .ok (.d (.int ys.length)) st
    | none => .bad
  | .tuple, [x] => match x with
    | .tup ys => .ok (.d (.tup ys)) st
    | x => match lstOf st x with
      | some ys => .ok (.d (.tup ys)) st
      | none => .bad
  | .list, [x] => match seqOf st x with
    | some ys => .ok (.fr ys) st
    | none => .bad
  | .int, [x] => match x with
    | .int i => .ok (.d (.int i)) st
    | .bl b => .ok (.d (.int (if b then 1 else 0))) st
    | _ => .bad
  | .repr, [x] => match pyS st x with
    | some p => if p.showable && decide (p.shown.length ≤ 1000000) && SeqAt.shaped p then .ok (.d (.str p.shown)) st else .bad
    | none => .bad
  | .sum, [x] => match (seqOf st x).bind intsOf with
    | some ns => .ok (.d (.int ns.sum)) st
    | none => .bad
  | .max, [x] => match (lstOf st x).bind intsOf with
    | some (n :: ns) => .ok (.d (.int (maxI n ns))) st
    | _ => .bad
  | .min, [x] => match (lstOf st x).bind intsOf with
    | some (n :: ns) => .ok (.d (.int (minI n ns))) st
    | _ => .bad
  | .max, [x, y] => match x with
    | .int i => match y with
      | .int j => .ok (.d (.int (if j > i then j else i))) st
      | _ => .bad
    | _ => .bad
  | .min, [x, y] => match x with
    | .int i => match y with
      | .int j => .ok (.d (.int (if j < i then j else i))) st
      | _ => .bad
    | _ => .bad
  | .abs, [x] => match x with
    | .int i => .ok (.d (.int (if i < 0 then -i else i))) st
    | _ => .bad
  | .all, [x] => match (lstOf st x).bind blsOf with
    | some bs => .ok (.d (.bl (bs.all id))) st
    | none => .bad
  | .any, [x] => match (lstOf st x).bind blsOf with
    | some bs => .ok (.d (.bl (bs.any id))) st
    | none => .bad
  | _, _ => .bad
def mthM (m : Mt) (o : D) (xs : List D) : M R := fun st => match m, o, xs with
  | .append, .loc n, [y] => match st[n]? with
    | some (.lst ys) => if lim ys.length then .ok (.d .non) (st.set n (.lst (ys ++ [y]))) else .bad
    | _ => .bad
  | .extend, .loc n, [y] => match st[n]?, lstOf st y with
    | some (.lst ys), some zs => if lim (ys.length + zs.length) then .ok (.d .non) (st.set n (.lst (ys ++ zs))) else .bad
    | _, _ => .bad
  | .pop, .loc n, [] => match st[n]? with
    | some (.lst ys) => match ys.getLast? with
      | some y => .ok (.d y) (st.set n (.lst ys.dropLast))
      | none => .bad
    | _ => .bad
  | _, _, _ => .bad
def klook : List Key → List D → Key → Option D
  | k :: ks, v :: vs, x => if k = x then some v else klook ks vs x
  | _, _, _ => none
def kputV : List Key → List D → Key → D → List D
  | k :: ks, v :: vs, x, y => if k = x then y :: vs else v :: kputV ks vs x y
  | _, vs, _, _ => vs
def idxM (x i : D) : M R := fun st => match i with
  | .int k => match x with
    | .tup xs | .lst xs => match (ixN xs.length k).bind (xs[·]?) with
      | some d => .ok (.d d) st
      | none => .bad
    | .loc n => match st[n]? with
      | some (.lst xs) => match (ixN xs.length k).bind (xs[·]?) with
        | some d => .ok (.d d) st
        | none => .bad
      | _ => .bad
    | _ => .bad
  | _ => .bad
def keyM (x : D) (k : Str) : M R := fun st => match x with
  | .loc n => match st[n]? with
    | some (.dct ks vs) => match klook ks vs (Sum.inr k) with
      | some d => .ok (.d d) st
      | none => .bad
    | _ => .bad
  | _ => .bad
/-- a slice's bound: l says that it is written -/
def bndM (l : Bool) (d : D) : M (Option Int) := match l with
  | false => rtn none
  | true => match d with
    | .int i => rtn (some i)
    | _ => badM
def slcM (x : D) (a b : Option Int) : M R := fun st => match x with
  | .tup xs => .ok (.d (.tup (cutL xs a b))) st
  | .lst xs | .scr xs => .ok (.fr (cutL xs a b)) st
  | .loc n => match st[n]? with
    | some (.lst xs) => .ok (.fr (cutL xs a b)) st
    | _ => .bad
  | _ => .bad
def revM (x : D) : M R := fun st => match x with
  | .tup xs => .ok (.d (.tup xs.reverse)) st
  | x => match lstOf st x with
    | some xs => .ok (.fr xs.reverse) st
    | none => .bad
def stiM (o i v : D) : M Unit := fun st => match o, i with
  | .loc n, .int k => match st[n]? with
    | some (.lst xs) => match ixN xs.length k with
      | some j => .ok () (st.set n (.lst (xs.set j v)))
      | none => .bad
    | _ => .bad
  | _, _ => .bad
def stkM (o : D) (k : Str) (v : D) : M Unit := fun st => match o with
  | .loc n => match st[n]? with
    | some (.dct ks vs) => if decide ks.Nodup && (klook ks vs (Sum.inr k)).isSome && lim ks.length then .ok () (st.set n (.dct ks (kputV ks vs (Sum.inr k) v))) else .bad
    | _ => .bad
  | _ => .bad
/-- the type test -/
def tyOf (st : Store) : D → Option Pr
  | .non => some .none
  | .bl _ => some .bool
  | .int _ => some .int
  | .str _ => some .str
  | .tup _ => some .tuple
  | .lst _ => some .list
  | .dct _ _ => some .dict
  | .scr _ | .ins _ _ _ => none
  | .loc m => match st[m]? with
    | some (.lst _) => some .list
    | some (.dct _ _) => some .dict
    | _ => none
def isTy (st : Store) (x : D) (t : Ty) : Option Bool := match t with
  | .pr n => (tyOf st x).map fun a => prB a n
  | _ => none
def isiM (x : D) (t : Ty) : M R := fun st => match isTy st x t with
  | some b => .ok (.d (.bl b)) st
  | none => .bad
def isAny (st : Store) (x : D) : List Ty → Option Bool
  | [] => some false
  | t :: ts => match isTy st x t, isAny st x ts with
    | some b, some r => some (b || r)
    | _, _ => none
def isitM (x : D) (ts : List Ty) : M R := fun st => match isAny st x ts with
  | some b => .ok (.d (.bl b)) st
  | none => .bad
/-! ### what a loop walks -/
def locsOf : D → List Nat
  | .loc n => [n]
  | _ => []
def watchOk (w : List Nat) (st0 st : Store) : Bool := w.all fun n => match st0[n]?, st[n]? with
  | some a, some b => Cell.beq a b
  | _, _ => false
def enumL : Int → List D → List D
  | _, [] => []
  | k, x :: xs => .tup [.int k, x] :: enumL (k + 1) xs
def zipL : List D → List D → List D
  | x :: xs, y :: ys => .tup [x, y] :: zipL xs ys
  | _, _ => []
def rngL (lo : Int) : Nat → List D
  | 0 => []
  | n + 1 => .int lo :: rngL (lo + 1) n
def smallI (i : Int) : Bool := decide (-1000000 ≤ i) && decide (i ≤ 1000000)
def rngM (xs : List D) : M R := match xs with
  | [.int n] => if smallI n then rtn (.it (rngL 0 n.toNat) []) else badM
  | [.int a, .int b] => if smallI a && smallI b then rtn (.it (rngL a (b - a).toNat) []) else badM
  | _ => badM
def itvM (x : D) : M R := fun st => match seqOf st x with
  | some xs => if lim xs.length then .ok (.it xs (locsOf x)) st else .bad
  | none => .bad
def enuM (k : Int) (x : D) : M R := fun st => match seqOf st x with
  | some xs => if lim xs.length then .ok (.it (enumL k xs) (locsOf x)) st else .bad
  | none => .bad
def isT : D → Bool
  | .tup _ => true
  | _ => false
def zipM (b : Bool) (x y : D) : M R := fun st => match seqOf st x, seqOf st y with
  | some xs, some ys => if b || !(isT x == isT y) then .bad else if lim xs.length then .ok (.it (zipL xs ys) (locsOf x ++ locsOf y)) st else .bad
  | _, _ => .bad
def setAll : List Nat → List D → En → Option En
  | [], [], en => some en
  | i :: is, x :: xs, en => setAll is xs (en.set i (some x))
  | _, _, _ => none
def bindT (tg : Tg) (x : D) (en : En) : Option En := match tg with
  | .nm i => some (en.set i (some x))
  | .tp is => match x with
    | .tup xs => setAll is xs en
    | _ => none
def wipe (en : En) : List Nat → En
  | [] => en
  | v :: vs => (wipe en vs).set v none
def consO {α : Type} : Option α → List α → List α
  | some y, ys => y :: ys
  | none, ys => ys
/-- what raises is bad -/
def nox {α : Type} (m : M α) : M α := fun st => match m st with
  | .ok a s => .ok a s
  | _ => .bad
def compGo (tg : Tg) (f : En → M (Option D)) (w : List Nat) (st0 : Store) (en : En) : List D → M (List D)
  | [] => rtn []
  | x :: xs => match bindT tg x en with
    | none => badM
    | some en1 => bnd (f en1) fun o => fun st => if watchOk w st0 st then
        bnd (compGo tg f w st0 en xs) (fun ys => rtn (consO o ys)) st else .bad

structure Cfg where
  call : Nat → List D → M D
  meth : Nat → Str → Option Nat := fun _ _ => none
  init : Nat → Option (Nat × Bool) := fun _ => none
  W : Nat := 1000000

def permuted (xs : List D) (perm : List Nat) : List D := perm.map fun i => xs.getD i .non

def ev (C : Cfg) : E → En → M R
  | .var i, en => match en[i]? with
    | some (some d) => rtn (.d d)
    | _ => badM
  | .cst d, _ => rtn (.d d)
  | .glo _ d, _ => rtn (.d d)
  | .nil, _ => rtn (.d (.tup []))
  | .cons a b, en => bnd (ev C a en) fun x => bnd (ev C b en) fun y => rtn (.d (.tup (x.val :: y.val.items)))
  | .star a b, en => bnd (ev C a en) fun x => fun st => match seqOf st x.val with
    | some xs => bnd (ev C b en) (fun y => if lim (xs.length + y.val.items.length) then rtn (.d (.tup (xs ++ y.val.items))) else badM) st
    | none => .bad
  | .tup es, en => bnd (ev C es en) fun x => if lim x.val.items.length then rtn (.d (.tup x.val.items)) else badM
  | .lst es, en => bnd (ev C es en) fun x => if lim x.val.items.length then rtn (.fr x.val.items) else badM
  | .bin op a b, en => bnd (ev C a en) fun x => bnd (ev C b en) fun y => binM op x.val y.val
  | .neg a, en => bnd (ev C a en) fun x => match x.val with
    | .int i => rtn (.d (.int (-i)))
    | _ => badM
  | .cmp op a b, en => bnd (ev C a en) fun x => bnd (ev C b en) fun y => blM (cmpM op x.val y.val)
  | .chn o p a b c, en => bnd (ev C a en) fun x => bnd (ev C b en) fun y => bnd (cmpM o x.val y.val) fun k =>
    if k then bnd (ev C c en) fun z => blM (cmpM p y.val z.val) else rtn (.d (.bl false))
  | .and a b, en => bnd (ev C a en) fun x => bnd (truM x.val) fun k => if k then ev C b en else rtn (.d x.val)
  | .or a b, en => bnd (ev C a en) fun x => bnd (truM x.val) fun k => if k then rtn (.d x.val) else ev C b en
  | .one a, en => ev C a en
  | .not a, en => bnd (ev C a en) fun x => bnd (truM x.val) fun k => rtn (.d (.bl (!k)))
  | .ite c a b, en => bnd (ev C c en) fun x => bnd (truM x.val) fun k => if k then ev C a en else ev C b en
  | .idx a i, en => bnd (ev C a en) fun x => bnd (ev C i en) fun y => idxM x.val y.val
  | .key a k, en => bnd (ev C a en) fun x => keyM x.val k
  | .slc a l lo h hi, en => bnd (ev C a en) fun x => bnd (ev C lo en) fun y => bnd (bndM l y.val) fun p => bnd (ev C hi en) fun z => bnd (bndM h z.val) fun q => slcM x.val p q
  | .rev a, en => bnd (ev C a en) fun x => revM x.val
  | .call f es, en => bnd (ev C es en) fun x => bnd (C.call f x.val.items) fun d => rtn (.d d)
  | .callk f es _ perm, en => bnd (ev C es en) fun x => bnd (C.call f (permuted x.val.items perm)) fun d => rtn (.d d)
  | .bi b es, en => bnd (ev C es en) fun x => biM b x.val.items
  | .mth m o es, en => bnd (ev C o en) fun x => fun st => match lstOf st x.val with
    | some _ => bnd (ev C es en) (fun y => mthM m x.val y.val.items) st
    | none => .bad
  | .comp elt tg it cond own, en => bnd (ev C it en) fun r => match r with
    | .it xs w => fun st => bnd (compGo tg (fun en1 => nox (bnd (ev C cond en1) fun c => bnd (truM c.val) fun k => if k then bnd (ev C elt en1) fun y => rtn (some y.val) else rtn none)) w st (wipe en own) xs) (fun ys => rtn (.fr ys)) st
    | _ => badM
  | .newl a, en => bnd (ev C a en) fun r => match r with
    | .fr xs => fun st => .ok (.d (.loc st.length)) (st ++ [.lst xs])
    | _ => badM
  | .newd ks es, en => bnd (ev C es en) fun x => fun st => if x.val.items.length = ks.length then .ok (.d (.loc st.length)) (st ++ [.dct ks x.val.items]) else .bad
  | .itv a, en => bnd (ev C a en) fun x => itvM x.val
  | .rng es, en => bnd (ev C es en) fun x => rngM x.val.items
  | .enu a k, en => bnd (ev C a en) fun x => enuM k x.val
  | .zip a b, en => bnd (ev C a en) fun x => bnd (ev C b en) fun y => zipM false x.val y.val
  | .zips a b, en => bnd (ev C a en) fun x => bnd (ev C b en) fun y => zipM true x.val y.val
  | .isi a t, en => bnd (ev C a en) fun x => isiM x.val t
  | .isit a ts, en => bnd (ev C a en) fun x => isitM x.val ts
  | .fld _ _, _ => badM
  | .mcl _ _ _, _ => badM
  | .mkn _ _, _ => badM
/-- an int changed in its place -/
def augM (op : BOp) (x y : D) : M R := match x, y with
  | .int i, .int j => match op with
    | .add => rtn (.d (.int (i + j)))
    | .sub => rtn (.d (.int (i - j)))
    | .mul => if mulOk i j then rtn (.d (.int (i * j))) else badM
    | _ => badM
  | _, _ => badM
/-- an expression as a test -/
def tev (C : Cfg) (e : E) (en : En) : M Bool := bnd (ev C e en) fun x => truM x.val

inductive S where
  | skip | seq (a b : S)
  | set (i : Nat) (e : E) | unp (is : List Nat) (e : E) | sti (o i v : E) | stk (o : E) (k : Str) (v : E)
  | aug (op : BOp) (i : Nat) (e : E) | augi (op : BOp) (o i e : E)
  | exp (e : E) | ret (e : E) | retn
  | ite (c : E) (a b : S) | whl (c : E) (b : S) | loop (tg : Tg) (it : E) (b : S)
  | brk | cnt
inductive Fl where
  | nx (en : En) | rt (d : D) | bk (en : En) | ct (en : En)
def forGo (tg : Tg) (f : En → M Fl) (w : List Nat) (st0 : Store) : List D → En → M Fl
  | [], en => rtn (.nx en)
  | x :: xs, en => match bindT tg x en with
    | none => badM
    | some en1 => bnd (f en1) fun fl => match fl with
      | .nx e | .ct e => fun st => if watchOk w st0 st then forGo tg f w st0 xs e st else .bad
      | .bk e => rtn (.nx e)
      | .rt d => rtn (.rt d)
def whlGo (t : En → M Bool) (f : En → M Fl) : Nat → En → M Fl
  | 0, _ => badM
  | n + 1, en => bnd (t en) fun b => if b then bnd (f en) fun fl => match fl with
      | .nx e | .ct e => whlGo t f n e
      | .bk e => rtn (.nx e)
      | .rt d => rtn (.rt d)
    else rtn (.nx en)
def ex (C : Cfg) : S → En → M Fl
  | .skip, en => rtn (.nx en)
  | .seq a b, en => bnd (ex C a en) fun fl => match fl with
    | .nx e => ex C b e
    | o => rtn o
  | .set i e, en => bnd (ev C e en) fun r => rtn (.nx (en.set i (some r.val)))
  | .unp is e, en => bnd (ev C e en) fun r => match bindT (.tp is) r.val en with
    | some en1 => rtn (.nx en1)
    | none => badM
  | .sti o i v, en => bnd (ev C v en) fun z => bnd (ev C o en) fun x => bnd (ev C i en) fun y => bnd (stiM x.val y.val z.val) fun _ => rtn (.nx en)
  | .stk o k v, en => bnd (ev C v en) fun z => bnd (ev C o en) fun x => bnd (stkM x.val k z.val) fun _ => rtn (.nx en)
  | .aug op i e, en => match en[i]? with
    | some (some d) => bnd (ev C e en) fun r => bnd (augM op d r.val) fun z => rtn (.nx (en.set i (some z.val)))
    | _ => badM
  | .augi op o i e, en => bnd (ev C o en) fun x => bnd (ev C i en) fun y => match x.val with
    | .loc n => bnd (idxM (.loc n) y.val) fun old => bnd (ev C e en) fun r => bnd (augM op old.val r.val) fun z => bnd (stiM (.loc n) y.val z.val) fun _ => rtn (.nx en)
    | _ => badM
  | .exp e, en => bnd (ev C e en) fun _ => rtn (.nx en)
  | .ret e, en => bnd (ev C e en) fun r => rtn (.rt r.val)
  | .retn, _ => rtn (.rt .non)
  | .ite c a b, en => bnd (tev C c en) fun k => if k then ex C a en else ex C b en
  | .whl c b, en => whlGo (tev C c) (ex C b) C.W en
  | .loop tg it b, en => bnd (ev C it en) fun r => match r with
    | .it xs w => fun st => forGo tg (ex C b) w st xs en st
    | _ => badM
  | .brk, en => rtn (.bk en)
  | .cnt, en => rtn (.ct en)

structure Fn where
  np : Nat
  ns : Nat
  body : S
  keep : Bool := false
/-- at a def's end its own cells go; a list of its own that it hands back stands -/
def endCall (keep : Bool) (st : Store) (d : D) (st' : Store) : Out D :=
  if keep || st'.length == st.length then .ok d st' else
    let d' := match d with
      | .loc m => if m < st.length then d else match st'[m]? with
        | some (.lst xs) => .lst xs
        | _ => d
      | d => d
    if d'.low st.length && oldOk st.length st st' then .ok d' (st'.take st.length) else .bad
def endFl (keep : Bool) (st : Store) : Out Fl → Out D
  | .ok (.rt d) s => endCall keep st d s
  | .ok (.nx _) s => endCall keep st .non s
  | .ok _ _ => .bad
  | .exc c xs s => if keep || s.length == st.length then .exc c xs s else
      if lowL st.length xs && oldOk st.length st s then .exc c xs (s.take st.length) else .bad
  | .bad => .bad
def entry (fn : Fn) (ds : List D) : En := ds.map some ++ List.replicate (fn.ns - fn.np) none
def callF (fns : List Fn) : Nat → Nat → List D → M D
  | 0, _, _ => badM
  | k + 1, f, ds => match fns[f]? with
    | none => badM
    | some fn => fun st => if ds.length = fn.np then endFl fn.keep st (ex { call := callF fns k } fn.body (entry fn ds) st) else .bad
end PD

/-! How values, cells and slots lie in the abstract heap. -/
namespace PD
open PySem PySem.Spec PyProof.Rows L2

/-- what stands fixed: the written part, own classes by number, error classes by number with the names of what they bear -/
structure Cn where
  K : PySem.W.Frag
  cls : Nat → Option Addr := fun _ => none
  exs : Nat → Option (Addr × List Str) := fun _ => none

mutual
inductive Fz (c : Cn) (F : Hp) (la : List Addr) : V → D → Prop
  | non : Fz c F la .non .non
  | bl (b : Bool) : Fz c F la (.bl b) (.bl b)
  | int (i : Int) : Fz c F la (.int i) (.int i)
  | str (x : Str) : Fz c F la (.str x) (.str x)
  | tup {a : Addr} {vs : List V} {ds : List D} : SqT c.K F a vs → FzL c F la vs ds → Fz c F la (.ref a) (.tup ds)
  | lst {a : Addr} {vs : List V} {ds : List D} : F a = some (.lst vs) → FzL c F la vs ds → Fz c F la (.ref a) (.lst ds)
  | scr {a : Addr} {vs : List V} {ds : List D} : SqL c.K F a vs → FzL c F la vs ds → Fz c F la (.ref a) (.scr ds)
  | dct {a : Addr} {ks : List Key} {vs : List V} {ds : List D} : F a = some (.dK (ks.zip vs)) → ks.length = vs.length → FzL c F la vs ds → Fz c F la (.ref a) (.dct ks ds)
  | ins {a C dx : Addr} {i : Nat} {ns : List Str} {vs : List V} {ds : List D} : F a = some (.ins C dx (ns.zip vs)) → ns.length = vs.length → c.cls i = some C → FzL c F la vs ds → Fz c F la (.ref a) (.ins i ns ds)
  | loc {n : Nat} {a : Addr} : la[n]? = some a → Fz c F la (.ref a) (.loc n)
inductive FzL (c : Cn) (F : Hp) (la : List Addr) : List V → List D → Prop
  | nil : FzL c F la [] []
  | cons {v : V} {vs : List V} {d : D} {ds : List D} : Fz c F la v d → FzL c F la vs ds → FzL c F la (v :: vs) (d :: ds)
end

section
variable {c : Cn} {F F' H H' : Hp} {la la' : List Addr}
theorem FzL.length : ∀ {vs : List V} {ds : List D}, FzL c F la vs ds → vs.length = ds.length
  | _, _, .nil => rfl
  | _, _, .cons _ t => by rw [List.length_cons, List.length_cons, FzL.length t]
theorem FzL.get : ∀ {vs : List V} {ds : List D} {i : Nat} {d : D}, FzL c F la vs ds → ds[i]? = some d → ∃ v, vs[i]? = some v ∧ Fz c F la v d
  | _, _, _, _, .nil, e => by simp at e
  | _, _, 0, _, .cons r _, e => by simp at e; subst e; exact ⟨_, rfl, r⟩
  | _, _, i + 1, d, .cons _ t, e => by
    obtain ⟨v, h1, h2⟩ := FzL.get (i := i) (d := d) t (by simpa using e)
    exact ⟨v, by simpa using h1, h2⟩
theorem FzL.getV : ∀ {vs : List V} {ds : List D} {i : Nat} {v : V}, FzL c F la vs ds → vs[i]? = some v → ∃ d, ds[i]? = some d ∧ Fz c F la v d
  | _, _, _, _, .nil, e => by simp at e
  | _, _, 0, _, .cons r _, e => by simp at e; subst e; exact ⟨_, rfl, r⟩
  | _, _, i + 1, v, .cons _ t, e => by
    obtain ⟨d, h1, h2⟩ := FzL.getV (i := i) (v := v) t (by simpa using e)
    exact ⟨d, by simpa using h1, h2⟩
theorem FzL.append : ∀ {vs ws : List V} {ds es : List D}, FzL c F la vs ds → FzL c F la ws es → FzL c F la (vs ++ ws) (ds ++ es)
  | _, _, _, _, .nil, s => s
  | _, _, _, _, .cons r t, s => .cons r (FzL.append t s)
theorem FzL.take : ∀ {vs : List V} {ds : List D} (n : Nat), FzL c F la vs ds → FzL c F la (vs.take n) (ds.take n)
  | _, _, 0, _ => .nil
  | _, _, _ + 1, .nil => .nil
  | _, _, n + 1, .cons r t => .cons r (FzL.take n t)
theorem FzL.drop : ∀ {vs : List V} {ds : List D} (n : Nat), FzL c F la vs ds → FzL c F la (vs.drop n) (ds.drop n)
  | _, _, 0, r => r
  | _, _, _ + 1, .nil => .nil
  | _, _, n + 1, .cons _ t => FzL.drop n t
theorem FzL.set {v : V} {d : D} (r : Fz c F la v d) : ∀ {vs : List V} {ds : List D} (i : Nat), FzL c F la vs ds → FzL c F la (vs.set i v) (ds.set i d)
  | _, _, _, .nil => .nil
  | _, _, 0, .cons _ t => .cons r t
  | _, _, i + 1, .cons q t => .cons q (FzL.set r i t)
theorem FzL.one {v : V} {d : D} (r : Fz c F la v d) : FzL c F la [v] [d] := .cons r .nil
theorem FzL.reverse : ∀ {vs : List V} {ds : List D}, FzL c F la vs ds → FzL c F la vs.reverse ds.reverse
  | _, _, .nil => .nil
  | _, _, .cons r t => by rw [List.reverse_cons, List.reverse_cons]; exact t.reverse.append (.one r)
theorem FzL.replicate {vs : List V} {ds : List D} (h : FzL c F la vs ds) : ∀ k : Nat, FzL c F la (List.replicate k vs).flatten (List.replicate k ds).flatten
  | 0 => .nil
  | k + 1 => by
    rw [List.replicate_succ, List.replicate_succ, List.flatten_cons, List.flatten_cons]
    exact h.append (FzL.replicate h k)
theorem FzL.empty {vs : List V} {ds : List D} (h : FzL c F la vs ds) : vs.isEmpty = ds.isEmpty := by cases h <;> rfl
theorem FzL.last : ∀ {vs : List V} {ds : List D} {d : D}, FzL c F la vs ds → ds.getLast? = some d → ∃ v, vs[vs.length - 1]? = some v ∧ Fz c F la v d := fun {vs ds d} h e => by
  rw [List.getLast?_eq_getElem?] at e
  obtain ⟨v, h1, h2⟩ := h.get e
  exact ⟨v, by rw [h.length]; exact h1, h2⟩
theorem FzL.dropLast {vs : List V} {ds : List D} (h : FzL c F la vs ds) : FzL c F la vs.dropLast ds.dropLast := by
  rw [List.dropLast_eq_take, List.dropLast_eq_take, h.length]
  exact h.take _

/-- F', la' know all that F, la know -/
structure Mono (F : Hp) (la : List Addr) (F' : Hp) (la' : List Addr) : Prop where
  fz : ∀ a o, F a = some o → F' a = some o
  pre : ∀ (n : Nat) (a : Addr), la[n]? = some a → la'[n]? = some a
theorem sqT_mono {K : PySem.W.Frag} {a : Addr} {xs : List V} (h : ∀ a o, F a = some o → F' a = some o) (q : SqT K F a xs) : SqT K F' a xs := by
  rcases q with (q | ⟨o, q⟩) | q
  · exact .inl (.inl (h _ _ q))
  · exact .inl (.inr ⟨o, h _ _ q⟩)
  · exact .inr q
theorem sqL_mono {K : PySem.W.Frag} {a : Addr} {xs : List V} (h : ∀ a o, F a = some o → F' a = some o) (q : SqL K F a xs) : SqL K F' a xs := by
  rcases q with (q | ⟨o, q⟩) | q
  · exact .inl (.inl (h _ _ q))
  · exact .inl (.inr ⟨o, h _ _ q⟩)
  · exact .inr q
mutual
theorem Fz.mono (m : Mono F la F' la') : ∀ {v : V} {d : D}, Fz c F la v d → Fz c F' la' v d
  | _, _, .non => .non
  | _, _, .bl b => .bl b
  | _, _, .int i => .int i
  | _, _, .str x => .str x
  | _, _, .tup h t => .tup (sqT_mono m.fz h) (FzL.mono m t)
  | _, _, .lst h t => .lst (m.fz _ _ h) (FzL.mono m t)
  | _, _, .scr h t => .scr (sqL_mono m.fz h) (FzL.mono m t)
  | _, _, .dct h l t => .dct (m.fz _ _ h) l (FzL.mono m t)
  | _, _, .ins h l q t => .ins (m.fz _ _ h) l q (FzL.mono m t)
  | _, _, .loc h => .loc (m.pre _ _ h)
theorem FzL.mono (m : Mono F la F' la') : ∀ {vs : List V} {ds : List D}, FzL c F la vs ds → FzL c F' la' vs ds
  | _, _, .nil => .nil
  | _, _, .cons r t => .cons (Fz.mono m r) (FzL.mono m t)
end

/-- how a cell lies at a -/
def CellIs (c : Cn) (F : Hp) (la : List Addr) (H : Hp) (a : Addr) : Cell → Prop
  | .lst ds => ∃ vs, H a = some (.lst vs) ∧ FzL c F la vs ds
  | .dct ks ds => ∃ vs, H a = some (.dK (ks.zip vs)) ∧ ks.length = vs.length ∧ FzL c F la vs ds
  | .obj i ns ds => ∃ C dx vs, H a = some (.ins C dx (ns.zip vs)) ∧ ns.length = vs.length ∧ c.cls i = some C ∧ FzL c F la vs ds
theorem CellIs.mono (m : Mono F la F' la') {a : Addr} (e : ∀ o, H a = some o → H' a = some o) : ∀ {x : Cell}, CellIs c F la H a x → CellIs c F' la' H' a x
  | .lst _, ⟨vs, h, t⟩ => ⟨vs, e _ h, t.mono m⟩
  | .dct _ _, ⟨vs, h, l, t⟩ => ⟨vs, e _ h, l, t.mono m⟩
  | .obj _ _ _, ⟨C, dx, vs, h, l, q, t⟩ => ⟨C, dx, vs, e _ h, l, q, t.mono m⟩
theorem CellIs.there {a : Addr} : ∀ {x : Cell}, CellIs c F la H a x → H a ≠ none
  | .lst _, ⟨_, h, _⟩ => by rw [h]; exact fun z => nomatch z
  | .dct _ _, ⟨_, h, _⟩ => by rw [h]; exact fun z => nomatch z
  | .obj _ _ _, ⟨_, _, _, h, _⟩ => by rw [h]; exact fun z => nomatch z

structure StRel (c : Cn) (F : Hp) (la : List Addr) (H : Hp) (st : Store) : Prop where
  len : la.length = st.length
  nd : la.Nodup
  free : ∀ a ∈ la, F a = none
  sub : ∀ a o, F a = some o → H a = some o
  at_ : ∀ (n : Nat) (a : Addr) (x : Cell), la[n]? = some a → st[n]? = some x → CellIs c F la H a x
theorem StRel.there {st : Store} (s : StRel c F la H st) {a : Addr} (h : a ∈ la) : H a ≠ none := by
  obtain ⟨n, hn, e⟩ := List.mem_iff_getElem.mp h
  have h1 : la[n]? = some a := by rw [List.getElem?_eq_getElem hn, e]
  have h2 : n < st.length := by rw [← s.len]; exact hn
  exact (s.at_ n a _ h1 (List.getElem?_eq_getElem h2)).there
theorem StRel.get {st : Store} (s : StRel c F la H st) {n : Nat} {a : Addr} {x : Cell} (h : la[n]? = some a) (e : st[n]? = some x) : CellIs c F la H a x := s.at_ n a x h e

/-- from one state to a later one -/
structure Ext (F : Hp) (la : List Addr) (H F' : Hp) (la' : List Addr) (H' : Hp) : Prop where
  mono : Mono F la F' la'
  keep : ∀ a o, H a = some o → a ∉ la → H' a = some o
  stay : ∀ a, H a ≠ none → H' a ≠ none
  newF : ∀ a o, F' a = some o → F a = some o ∨ H a = none
  newL : ∀ a ∈ la', a ∈ la ∨ H a = none
theorem Mono.refl : Mono F la F la := ⟨fun _ _ h => h, fun _ _ h => h⟩
theorem Mono.trans {F'' : Hp} {la'' : List Addr} (a : Mono F la F' la') (b : Mono F' la' F'' la'') : Mono F la F'' la'' :=
  ⟨fun x o h => b.fz x o (a.fz x o h), fun n x h => b.pre n x (a.pre n x h)⟩
theorem Ext.refl : Ext F la H F la H := ⟨.refl, fun _ _ h _ => h, fun _ h => h, fun _ _ h => .inl h, fun _ h => .inl h⟩
theorem Ext.trans {F'' H'' : Hp} {la'' : List Addr} (a : Ext F la H F' la' H') (b : Ext F' la' H' F'' la'' H'') : Ext F la H F'' la'' H'' := by
  refine ⟨a.mono.trans b.mono, fun x o h n => ?_, fun x h => b.stay x (a.stay x h), fun x o h => ?_, fun x h => ?_⟩
  · refine b.keep x o (a.keep x o h n) fun z => ?_
    rcases a.newL x z with q | q
    · exact n q
    · rw [h] at q; cases q
  · rcases b.newF x o h with q | q
    · exact a.newF x o q
    · refine .inr ?_
      cases e : H x with
      | none => rfl
      | some u => exact absurd q (a.stay x (by rw [e]; exact fun z => nomatch z))
  · rcases b.newL x h with q | q
    · exact a.newL x q
    · refine .inr ?_
      cases e : H x with
      | none => rfl
      | some u => exact absurd q (a.stay x (by rw [e]; exact fun z => nomatch z))
theorem Ext.none_of (a : Ext F la H F' la' H') {x : Addr} (h : H' x = none) : H x = none := by
  cases e : H x with
  | none => rfl
  | some u => exact absurd h (a.stay x (by rw [e]; exact fun z => nomatch z))

/-- slots -/
structure EnRel (c : Cn) (F : Hp) (la : List Addr) (σ : L2.St) (en : En) : Prop where
  len : σ.length = en.length
  at_ : ∀ (i : Nat) (d : D), en[i]? = some (some d) → ∃ v, σ[i]? = some (some v) ∧ Fz c F la v d
theorem EnRel.mono {σ : L2.St} {en : En} (m : Mono F la F' la') (r : EnRel c F la σ en) : EnRel c F' la' σ en :=
  ⟨r.len, fun i d h => let ⟨v, e, q⟩ := r.at_ i d h; ⟨v, e, q.mono m⟩⟩
theorem EnRel.set {σ : L2.St} {en : En} {v : V} {d : D} (r : EnRel c F la σ en) (i : Nat) (q : Fz c F la v d) : EnRel c F la (σ.set i (some v)) (en.set i (some d)) := by
  refine ⟨by rw [List.length_set, List.length_set, r.len], fun j x h => ?_⟩
  by_cases e : i = j
  · subst e
    by_cases hl : i < en.length
    · rw [List.getElem?_set_self hl] at h
      cases h
      exact ⟨v, List.getElem?_set_self (by rw [r.len]; exact hl), q⟩
    · rw [List.getElem?_eq_none (by rw [List.length_set]; omega)] at h
      cases h
  · rw [List.getElem?_set_ne e] at h ⊢
    exact r.at_ j x h
theorem EnRel.wipe {σ : L2.St} {en : En} (r : EnRel c F la σ en) : ∀ own : List Nat, EnRel c F la (L2.wipe σ own) (PD.wipe en own)
  | [] => r
  | v :: vs => by
    have q := EnRel.wipe r vs
    refine ⟨?_, fun j x h => ?_⟩
    · show ((L2.wipe σ vs).set v none).length = ((PD.wipe en vs).set v none).length
      rw [List.length_set, List.length_set, q.len]
    · have h : ((PD.wipe en vs).set v none)[j]? = some (some x) := h
      by_cases e : v = j
      · subst e
        by_cases hl : v < (PD.wipe en vs).length
        · rw [List.getElem?_set_self hl] at h; cases h
        · rw [List.getElem?_eq_none (by rw [List.length_set]; omega)] at h; cases h
      · rw [List.getElem?_set_ne e] at h
        obtain ⟨w, h1, h2⟩ := q.at_ j x h
        refine ⟨w, ?_, h2⟩
        show ((L2.wipe σ vs).set v none)[j]? = _
        rw [List.getElem?_set_ne e]
        exact h1

/-! ### outcomes -/
/-- what is wanted of an outcome -/
def PostG {β : Type} (o : Out β) (P : β → Store → Prop) (X : Nat → List D → Store → Prop) : Prop := match o with
  | .ok b s => P b s
  | .exc e xs s => X e xs s
  | .bad => False
theorem PostG.bnd {α β : Type} {m : M α} {f : α → M β} {st : Store} {P : β → Store → Prop} {X : Nat → List D → Store → Prop} (h : PostG (bnd m f st) P X) : PostG (m st) (fun a s => PostG (f a s) P X) X := by
  unfold PD.bnd at h
  cases e : m st with
  | ok a s => rw [e] at h; exact h
  | exc c x s => rw [e] at h; exact h
  | bad => rw [e] at h; exact h
theorem PostG.imp {β : Type} {o : Out β} {P P' : β → Store → Prop} {X X' : Nat → List D → Store → Prop} (h : PostG o P X) (hp : ∀ b s, o = .ok b s → P b s → P' b s) (hx : ∀ e xs s, X e xs s → X' e xs s) : PostG o P' X' := by
  cases o with
  | ok b s => exact hp b s rfl h
  | exc c x s => exact hx c x s h
  | bad => exact h
/-- how an expression's outcome lies; H0: the heap it began in -/
def RelR (c : Cn) (H0 F : Hp) (la : List Addr) (H : Hp) (v : V) : R → Prop
  | .d x => Fz c F la v x
  | .fr xs => ∃ a vs, v = .ref a ∧ H a = some (.lst vs) ∧ H0 a = none ∧ F a = none ∧ a ∉ la ∧ FzL c F la vs xs
  | .it _ _ => False
/-- an error, as it lies -/
def ExcIs (c : Cn) (F : Hp) (la : List Addr) (H : Hp) (e : Nat) (xs : List D) (C : Value) (dx : Option Addr) : Prop :=
  ∃ Ca ns, c.exs e = some (Ca, ns) ∧ C = .ref Ca ∧ ns.length = xs.length ∧
    match xs with
    | [] => dx = none
    | _ => ∃ d vs, dx = some d ∧ H d = some (.xd (ns.zip vs)) ∧ ns.length = vs.length ∧ FzL c F la vs xs
/-- what is wanted of errors -/
def PostX (c : Cn) (ek : XK) (F : Hp) (la : List Addr) (H : Hp) (e : Nat) (xs : List D) (st' : Store) : Prop :=
  ∀ C dx F' la' H', Ext F la H F' la' H' → StRel c F' la' H' st' → ExcIs c F' la' H' e xs C dx → ek C dx H'
theorem PostX.later {ek : XK} {e : Nat} {xs : List D} {st' : Store} (x : Ext F la H F' la' H') (h : PostX c ek F la H e xs st') : PostX c ek F' la' H' e xs st' :=
  fun C dx F2 la2 H2 y s q => h C dx F2 la2 H2 (x.trans y) s q
def PostE (c : Cn) (ek : XK) (F : Hp) (la : List Addr) (H : Hp) (Q : V → Hp → Prop) (o : Out R) : Prop :=
  PostG o (fun r st' => ∀ v F' la' H', Ext F la H F' la' H' → StRel c F' la' H' st' → RelR c H F' la' H' v r → Q v H') (PostX c ek F la H)
def PostB (c : Cn) (ek : XK) (F : Hp) (la : List Addr) (H : Hp) (Q : Bool → Hp → Prop) (o : Out Bool) : Prop :=
  PostG o (fun b st' => ∀ F' la' H', Ext F la H F' la' H' → StRel c F' la' H' st' → Q b H') (PostX c ek F la H)
/-- a reading that does what m does -/
def SE (c : Cn) (ek : XK) (t : TE) (m : En → M R) : Prop :=
  ∀ (σ : L2.St) (F : Hp) (la : List Addr) (H : Hp) (en : En) (st : Store) (Q : V → Hp → Prop), EnRel c F la σ en → StRel c F la H st → PostE c ek F la H Q (m en st) → t σ H Q
def ST (c : Cn) (ek : XK) (t : TT) (m : En → M Bool) : Prop :=
  ∀ (σ : L2.St) (F : Hp) (la : List Addr) (H : Hp) (en : En) (st : Store) (Q : Bool → Hp → Prop), EnRel c F la σ en → StRel c F la H st → PostB c ek F la H Q (m en st) → t σ H Q
def SA (c : Cn) (ek : XK) (t : TA) (m : En → M R) : Prop :=
  ∀ (σ : L2.St) (F : Hp) (la : List Addr) (H : Hp) (en : En) (st : Store) (Q : List V → Hp → Prop), EnRel c F la σ en → StRel c F la H st →
    PostG (m en st) (fun r st' => ∀ vs F' la' H', Ext F la H F' la' H' → StRel c F' la' H' st' → (∃ ds, r = .d (.tup ds) ∧ FzL c F' la' vs ds) → Q vs H') (PostX c ek F la H) → t σ H Q

/-- a heap that grew by one object that is fixed -/
theorem ext_fix {p : Addr} {o : HO} {st : Store} (s : StRel c F la H st) (hp : H p = none) : Ext F la H (upd F p o) la (upd H p o) ∧ StRel c (upd F p o) la (upd H p o) st := by
  have hF : F p = none := by
    cases e : F p with
    | none => rfl
    | some u => rw [s.sub p u e] at hp; cases hp
  have hl : p ∉ la := fun z => s.there z hp
  have m : Mono F la (upd F p o) la := ⟨fun a u h => by rw [upd_ne (fun z => by rw [z, hF] at h; cases h)]; exact h, fun _ _ h => h⟩
  refine ⟨⟨m, fun a u h _ => ?_, fun a h => ?_, fun a u h => ?_, fun a h => .inl h⟩, ⟨s.len, s.nd, fun a h => ?_, fun a u h => ?_, fun n a x h1 h2 => ?_⟩⟩
  · rw [upd_ne (fun z => by rw [z, hp] at h; cases h)]; exact h
  · by_cases e : a = p
    · rw [e] at h; exact absurd hp h
    · rw [upd_ne e]; exact h
  · by_cases e : a = p
    · rw [e]; exact .inr hp
    · rw [upd_ne e] at h; exact .inl h
  · rw [upd_ne (show a ≠ p from fun z => hl (by rw [← z]; exact h))]; exact s.free a h
  · by_cases e : a = p
    · subst e; rw [upd_same] at h; rw [upd_same]; exact h
    · rw [upd_ne e] at h; rw [upd_ne e]; exact s.sub a u h
  · refine (s.at_ n a x h1 h2).mono m fun u e => ?_
    rw [upd_ne (show a ≠ p from fun z => hl (by rw [← z]; exact List.mem_of_getElem? h1))]; exact e
/-- a new object that is not fixed yet -/
theorem ext_new {p : Addr} {o : HO} {st : Store} (s : StRel c F la H st) (hp : H p = none) : Ext F la H F la (upd H p o) ∧ StRel c F la (upd H p o) st := by
  have hl : p ∉ la := fun z => s.there z hp
  refine ⟨⟨.refl, fun a u h _ => ?_, fun a h => ?_, fun a u h => .inl h, fun a h => .inl h⟩, ⟨s.len, s.nd, s.free, fun a u h => ?_, fun n a x h1 h2 => ?_⟩⟩
  · rw [upd_ne (fun z => by rw [z, hp] at h; cases h)]; exact h
  · by_cases e : a = p
    · rw [e] at h; exact absurd hp h
    · rw [upd_ne e]; exact h
  · have := s.sub a u h
    rw [upd_ne (fun z => by rw [z, hp] at this; cases this)]; exact this
  · refine (s.at_ n a x h1 h2).mono .refl fun u e => ?_
    rw [upd_ne (show a ≠ p from fun z => hl (by rw [← z]; exact List.mem_of_getElem? h1))]; exact e
/-- an object that lies loose is fixed -/
theorem ext_freeze {p : Addr} {o : HO} {st : Store} (s : StRel c F la H st) (hp : H p = some o) (hF : F p = none) (hl : p ∉ la) : Mono F la (upd F p o) la ∧ StRel c (upd F p o) la H st := by
  have m : Mono F la (upd F p o) la := ⟨fun a u h => by rw [upd_ne (fun z => by rw [z, hF] at h; cases h)]; exact h, fun _ _ h => h⟩
  refine ⟨m, ⟨s.len, s.nd, fun a h => ?_, fun a u h => ?_, fun n a x h1 h2 => (s.at_ n a x h1 h2).mono m fun u e => e⟩⟩
  · rw [upd_ne (show a ≠ p from fun z => hl (by rw [← z]; exact h))]; exact s.free a h
  · by_cases e : a = p
    · subst e; rw [upd_same] at h; cases h; exact hp
    · rw [upd_ne e] at h; exact s.sub a u h
/-- an outcome as a value -/
theorem fix_val {H0 F0 : Hp} {la0 : List Addr} {v : V} {r : R} {st : Store} (x : Ext F0 la0 H0 F la H) (s : StRel c F la H st) (h : RelR c H0 F la H v r) :
    ∃ F1, Ext F0 la0 H0 F1 la H ∧ StRel c F1 la H st ∧ Mono F la F1 la ∧ Fz c F1 la v r.val := by
  cases r with
  | d d => exact ⟨F, x, s, .refl, h⟩
  | it xs w => exact h.elim
  | fr xs =>
    obtain ⟨a, vs, rfl, ha, h0, hF, hl, t⟩ := h
    obtain ⟨m, s1⟩ := ext_freeze s ha hF hl
    refine ⟨upd F a (.lst vs), ⟨x.mono.trans m, x.keep, x.stay, fun b o e => ?_, x.newL⟩, s1, m, .lst upd_same (t.mono m)⟩
    by_cases q : b = a
    · rw [q]; exact .inr h0
    · rw [upd_ne q] at e; exact x.newF b o e
end
end PD

/-! Expressions: each rule of the hand layer does what the small language does. -/
namespace PD
open PySem PySem.Spec PyProof.Rows L2

/-- what is known of the place where code runs -/
structure Ft (X : Cx) (c : Cn) : Prop where
  K : X.K = c.K
  calm : X.calm = true
  nd : X.N.Nodup
  un : X.A.units + 100 < cLine
  grd : X.A.guards = some []

def DE (X : Cx) (c : Cn) (ek : XK) (e : Expr) (m : En → M R) : Prop := ∃ t, PE X e t ∧ SE c ek t m
def DT (X : Cx) (c : Cn) (ek : XK) (e : Expr) (m : En → M Bool) : Prop := ∃ t, PT X e t ∧ ST c ek t m
def DA (X : Cx) (c : Cn) (ek : XK) (es : List Expr) (m : En → M R) : Prop := ∃ t, PA X es t ∧ SA c ek t m
/-- an operator on values -/
def OpS (c : Cn) (ek : XK) (r : R2) (g : D → D → M R) : Prop :=
  ∀ (x y : D) (v u : V) (F : Hp) (la : List Addr) (H : Hp) (st : Store) (Q : V → Hp → Prop), StRel c F la H st → Fz c F la v x → Fz c F la u y → PostE c ek F la H Q (g x y st) → r v u H Q
/-- a comparison of values -/
def OpB (c : Cn) (r : R2) (g : D → D → Store → Option Bool) : Prop :=
  ∀ (x y : D) (v u : V) (F : Hp) (la : List Addr) (H : Hp) (st : Store) (b : Bool) (Q : V → Hp → Prop), StRel c F la H st → Fz c F la v x → Fz c F la u y → g x y st = some b → Q (.bl b) H → r v u H Q
/-- a call of a built-in by values -/
def CallS (c : Cn) (r : List V → Hp → VK → Prop) (g : List D → M R) : Prop :=
  ∀ (xs : List D) (vs : List V) (F : Hp) (la : List Addr) (H : Hp) (st : Store) (ek : XK) (Q : V → Hp → Prop), StRel c F la H st → FzL c F la vs xs → PostE c ek F la H Q (g xs st) → r vs H Q

section
variable {X : Cx} {c : Cn} {ek : XK} {F F' H H' : Hp} {la la' : List Addr} {st : Store} {a b e : Expr} {es : List Expr} {ma mb mc : En → M R} {pos : Pos}

/-! ### outcomes in a row -/
theorem PostE.step {P : R → Store → Prop} {Q : V → Hp → Prop} {m : M R} {f : R → M R} (h : PostE c ek F la H Q (bnd m f st)) :
    PostG (m st) (fun r s => PostE c ek F la H Q (f r s)) (PostX c ek F la H) := PostG.bnd h
/-- to a later state: the value's wish -/
theorem PostE.later {Q : V → Hp → Prop} {o : Out R} (x : Ext F la H F' la' H') (h : PostE c ek F la H Q o) : PostE c ek F' la' H' Q o := by
  refine PostG.imp h (fun r s _ q v F2 la2 H2 x2 s2 rr => ?_) fun e xs s q => q.later x
  refine q v F2 la2 H2 (x.trans x2) s2 ?_
  cases r with
  | d d => exact rr
  | it xs w => exact rr
  | fr xs =>
    obtain ⟨p, vs, e1, e2, e3, e4⟩ := rr
    exact ⟨p, vs, e1, e2, x.none_of e3, e4⟩
theorem PostB.later {Q : Bool → Hp → Prop} {o : Out Bool} (x : Ext F la H F' la' H') (h : PostB c ek F la H Q o) : PostB c ek F' la' H' Q o :=
  PostG.imp h (fun b s _ q F2 la2 H2 x2 s2 => q F2 la2 H2 (x.trans x2) s2) fun e xs s q => q.later x
/-- an expression's reading, then what asks its value -/
theorem SE.then_ {t : TE} {m : En → M R} (h : SE c ek t m) {σ : L2.St} {en : En} (re : EnRel c F la σ en) (rs : StRel c F la H st) {Q : V → Hp → Prop} {P : R → Store → Prop}
    (hp : PostG (m en st) P (PostX c ek F la H))
    (k : ∀ r s1 v F1 la1 H1, P r s1 → Ext F la H F1 la1 H1 → StRel c F1 la1 H1 s1 → Fz c F1 la1 v r.val → Q v H1) : t σ H Q := by
  refine h σ F la H en st Q re rs (PostG.imp hp (fun r s1 _ q v F1 la1 H1 x1 s2 rr => ?_) fun _ _ _ q => q)
  obtain ⟨F2, x2, s3, m2, fz⟩ := fix_val x1 s2 rr
  exact k r s1 v F2 la1 H1 q x2 s3 fz

/-! ### constants, names -/
theorem PostE.now {Q : V → Hp → Prop} {d : D} {v : V} (h : PostE c ek F la H Q (.ok (.d d) st)) (s : StRel c F la H st) (q : Fz c F la v d) : Q v H :=
  h v F la H .refl s q
theorem DE.var {i : Nat} {x : Str} (hN : X.N[i]? = some x) (hv : Vis X.env.scope x) (hd : (x == ("__debug__" : Str)) = false) (hcd : (x == ("__classdict__" : Str)) = false) {C : Cfg} : DE X c ek (.Name x pos) (ev C (.var i)) := by
  refine ⟨tVar i, pe_var hN hv hd hcd, fun σ F la H en st Q re rs h => ?_⟩
  unfold ev at h
  cases e1 : en[i]? with
  | none => rw [e1] at h; exact h.elim
  | some o =>
    cases o with
    | none => rw [e1] at h; exact h.elim
    | some d =>
      rw [e1] at h
      obtain ⟨v, e2, q⟩ := re.at_ i d e1
      exact ⟨v, e2, h.now rs q⟩
theorem DE.const {d : D} {v : V} (he : PE X e (tC v)) (q : ∀ F la, Fz c F la v d) : DE X c ek e (fun _ => rtn (.d d)) :=
  ⟨tC v, he, fun σ F la H en st Q re rs h => PostE.now h rs (q F la)⟩

/-! ### lists of expressions -/
theorem DA.nil {C : Cfg} : DA X c ek [] (ev C .nil) := by
  refine ⟨tNil, pa_nil, fun σ F la H en st Q re rs h => ?_⟩
  exact h [] F la H .refl rs ⟨[], rfl, .nil⟩
/-- a later state's view of a list's outcome -/
theorem SA.then_ {t : TA} {m : En → M R} (h : SA c ek t m) {σ : L2.St} {en : En} (re : EnRel c F la σ en) (rs : StRel c F la H st) {Q : List V → Hp → Prop} {P : R → Store → Prop}
    (hp : PostG (m en st) P (PostX c ek F la H))
    (k : ∀ ds s1 vs F1 la1 H1, P (.d (.tup ds)) s1 → Ext F la H F1 la1 H1 → StRel c F1 la1 H1 s1 → FzL c F1 la1 vs ds → Q vs H1) : t σ H Q := by
  refine h σ F la H en st Q re rs (PostG.imp hp (fun r s1 _ q vs F1 la1 H1 x1 s2 rr => ?_) fun _ _ _ q => q)
  obtain ⟨ds, rfl, fz⟩ := rr
  exact k ds s1 vs F1 la1 H1 q x1 s2 fz
theorem DA.cons {C : Cfg} {A B : E} (ha : DE X c ek a (ev C A)) (hb : DA X c ek es (ev C B)) (hs : starEach (a :: es) X.env = (false, eval a X.env) :: starEach es X.env) : DA X c ek (a :: es) (ev C (.cons A B)) := by
  obtain ⟨ta, pa, sa⟩ := ha
  obtain ⟨tb, pb, sb⟩ := hb
  refine ⟨tCons ta tb, pa_cons pa pb hs, fun σ F la H en st Q re rs h => ?_⟩
  refine sa.then_ re rs (PostG.bnd h) fun r s1 v F1 la1 H1 h1 x1 s2 q1 => ?_
  refine sb.then_ (re.mono x1.mono) s2 (PostG.imp (PostG.bnd h1) (fun _ _ _ z => z) fun _ _ _ z => z.later x1) fun ds s3 vs F2 la2 H2 h2 x2 s4 q2 => ?_
  exact h2 (v :: vs) F2 la2 H2 (x1.trans x2) s4 ⟨r.val :: ds, rfl, .cons (q1.mono x2.mono) q2⟩
theorem loc_lst {n : Nat} {ys : List D} (h : seqOf st (.loc n) = some ys) : st[n]? = some (.lst ys) := by
  have h : (match st[n]? with
    | some (.lst xs) => some xs
    | _ => none) = some ys := h
  cases e : st[n]? with
  | none => rw [e] at h; cases h
  | some x =>
    rw [e] at h
    cases x with
    | lst ds => cases h; rfl
    | dct _ _ => cases h
    | obj _ _ _ => cases h
theorem seqOf_is (rs : StRel c F la H st) {v : V} {d : D} {xs : List D} (q : Fz c F la v d) (h : seqOf st d = some xs) :
    ∃ p vs, v = .ref p ∧ (SqT c.K H p vs ∨ SqL c.K H p vs) ∧ FzL c F la vs xs := by
  cases q with
  | tup e t => cases h; exact ⟨_, _, rfl, .inl (sqT_mono rs.sub e), t⟩
  | lst e t => cases h; exact ⟨_, _, rfl, .inr (.inl (.inl (rs.sub _ _ e))), t⟩
  | scr e t => cases h; exact ⟨_, _, rfl, .inr (sqL_mono rs.sub e), t⟩
  | @loc n p e =>
    obtain ⟨vs, h1, t⟩ := rs.get e (loc_lst h)
    exact ⟨_, _, rfl, .inr (.inl (.inl h1)), t⟩
  | non => cases h
  | bl _ => cases h
  | int _ => cases h
  | str _ => cases h
  | dct _ _ _ => cases h
  | ins _ _ _ _ => cases h
theorem lstOf_is (rs : StRel c F la H st) {v : V} {d : D} {xs : List D} (q : Fz c F la v d) (h : lstOf st d = some xs) : ∃ p vs, v = .ref p ∧ H p = some (.lst vs) ∧ FzL c F la vs xs := by
  cases q with
  | lst e t => cases h; exact ⟨_, _, rfl, rs.sub _ _ e, t⟩
  | @loc n p e =>
    obtain ⟨vs, h1, t⟩ := rs.get e (loc_lst h)
    exact ⟨_, _, rfl, h1, t⟩
  | tup _ _ => cases h
  | scr _ _ => cases h
  | non => cases h
  | bl _ => cases h
  | int _ => cases h
  | str _ => cases h
  | dct _ _ _ => cases h
  | ins _ _ _ _ => cases h
theorem lim_le {n : Nat} (h : lim n = true) : n ≤ sizeLine := Nat.le_trans (of_decide_eq_true h) (by decide)
theorem lim_lt {n : Nat} (h : lim n = true) : n < sizeLine := Nat.lt_of_le_of_lt (of_decide_eq_true h) (by decide)
theorem DE.tup {C : Cfg} {A : E} {k : Nat} (ha : DA X c ek es (ev C A)) : DE X c ek (.Tuple es k pos) (ev C (.tup A)) := by
  obtain ⟨ta, pa, sa⟩ := ha
  refine ⟨tTup ta, pe_tup pa, fun σ F la H en st Q re rs h => ?_⟩
  refine sa.then_ re rs (PostG.bnd h) fun ds s1 vs F1 la1 H1 h1 x1 s2 q1 => ?_
  by_cases hl : lim ds.length = true
  · rw [show (R.d (D.tup ds)).val.items = ds from rfl, if_pos hl] at h1
    refine ⟨by rw [q1.length]; exact lim_le hl, fun p hp => ?_⟩
    obtain ⟨x2, s3⟩ := ext_fix (o := .tup vs) s2 hp
    exact h1 (.ref p) _ _ _ (x1.trans x2) s3 (.tup (.inl (.inl upd_same)) (q1.mono x2.mono))
  · rw [show (R.d (D.tup ds)).val.items = ds from rfl, if_neg hl] at h1
    exact h1.elim
theorem DE.lst {C : Cfg} {A : E} (ha : DA X c ek es (ev C A)) : DE X c ek (.List es pos) (ev C (.lst A)) := by
  obtain ⟨ta, pa, sa⟩ := ha
  refine ⟨tLst ta, pe_lst pa, fun σ F la H en st Q re rs h => ?_⟩
  refine sa.then_ re rs (PostG.bnd h) fun ds s1 vs F1 la1 H1 h1 x1 s2 q1 => ?_
  by_cases hl : lim ds.length = true
  · rw [show (R.d (D.tup ds)).val.items = ds from rfl, if_pos hl] at h1
    refine ⟨by rw [q1.length]; exact lim_le hl, fun p hp => ?_⟩
    obtain ⟨x2, s3⟩ := ext_new (o := .lst vs) s2 hp
    have hF : F1 p = none := by
      cases e : F1 p with
      | none => rfl
      | some u => rw [s2.sub p u e] at hp; cases hp
    exact h1 (.ref p) _ _ _ (x1.trans x2) s3 ⟨p, vs, rfl, upd_same, x1.none_of hp, hF, fun z => s2.there z hp, q1⟩
  · rw [show (R.d (D.tup ds)).val.items = ds from rfl, if_neg hl] at h1
    exact h1.elim

/-! ### operators -/
theorem DE.op {op : Operator} {r : R2} {g : D → D → M R} (ho : OpR X (binaryOp op) r) (hg : OpS c ek r g) (ha : DE X c ek a ma) (hb : DE X c ek b mb) :
    DE X c ek (.BinOp a op b pos) (fun en => bnd (ma en) fun x => bnd (mb en) fun y => g x.val y.val) := by
  obtain ⟨ta, pa, sa⟩ := ha
  obtain ⟨tb, pb, sb⟩ := hb
  refine ⟨tOp r ta tb, pe_op ho pa pb, fun σ F la H en st Q re rs h => ?_⟩
  refine sa.then_ re rs (PostG.bnd h) fun r1 s1 v F1 la1 H1 h1 x1 s2 q1 => ?_
  refine sb.then_ (re.mono x1.mono) s2 (PostG.imp (PostG.bnd h1) (fun _ _ _ z => z) fun _ _ _ z => z.later x1) fun r2 s3 u F2 la2 H2 h2 x2 s4 q2 => ?_
  exact hg _ _ v u F2 la2 H2 s3 Q s4 (q1.mono x2.mono) q2 (PostE.later (x1.trans x2) h2)
theorem DE.ix {r : R2} {g : D → D → M R} (ho : IxR X r) (hg : OpS c ek r g) (ha : DE X c ek a ma) (hb : DE X c ek b mb) (hs : PlainIx b) :
    DE X c ek (.Subscript a b pos) (fun en => bnd (ma en) fun x => bnd (mb en) fun y => g x.val y.val) := by
  obtain ⟨ta, pa, sa⟩ := ha
  obtain ⟨tb, pb, sb⟩ := hb
  refine ⟨tOp r ta tb, pe_ix ho pa pb hs, fun σ F la H en st Q re rs h => ?_⟩
  refine sa.then_ re rs (PostG.bnd h) fun r1 s1 v F1 la1 H1 h1 x1 s2 q1 => ?_
  refine sb.then_ (re.mono x1.mono) s2 (PostG.imp (PostG.bnd h1) (fun _ _ _ z => z) fun _ _ _ z => z.later x1) fun r2 s3 u F2 la2 H2 h2 x2 s4 q2 => ?_
  exact hg _ _ v u F2 la2 H2 s3 Q s4 (q1.mono x2.mono) q2 (PostE.later (x1.trans x2) h2)
/-- a comparison as a value and as a test -/
theorem OpB.val {r : R2} {g : D → D → Store → Option Bool} (hg : OpB c r g) : OpS c ek r (fun x y => blM fun st => match g x y st with
    | some b => .ok b st
    | none => .bad) := by
  intro x y v u F la H st Q rs q1 q2 h
  cases e : g x y st with
  | none => simp only [blM, bnd, e] at h; exact h.elim
  | some b =>
    simp only [blM, bnd, e] at h
    exact hg x y v u F la H st b Q rs q1 q2 e (PostE.now h rs (.bl b))
theorem DE.cmp {o : CmpOp} {k : COp} {r : R2} {C : Cfg} {A B : E} (ho : OpR X (compareOp o) r) (hg : OpB c r (cmpS k)) (ha : DE X c ek a (ev C A)) (hb : DE X c ek b (ev C B)) (hm : behindInMarks o b = false) :
    DE X c ek (.Compare a [o] [b] pos) (ev C (.cmp k A B)) := by
  obtain ⟨ta, pa, sa⟩ := ha
  obtain ⟨tb, pb, sb⟩ := hb
  refine ⟨tOp r ta tb, pe_cmpR ho pa pb hm, fun σ F la H en st Q re rs h => ?_⟩
  refine sa.then_ re rs (PostG.bnd h) fun r1 s1 v F1 la1 H1 h1 x1 s2 q1 => ?_
  refine sb.then_ (re.mono x1.mono) s2 (PostG.imp (PostG.bnd h1) (fun _ _ _ z => z) fun _ _ _ z => z.later x1) fun r2 s3 u F2 la2 H2 h2 x2 s4 q2 => ?_
  exact hg.val _ _ v u F2 la2 H2 s3 Q s4 (q1.mono x2.mono) q2 (PostE.later (x1.trans x2) h2)
theorem blM_tru (m : M Bool) (st : Store) : bnd (blM m) (fun x => truM x.val) st = m st := by
  unfold blM bnd
  cases m st with
  | ok b s => rfl
  | exc _ _ _ => rfl
  | bad => rfl
theorem bnd_assoc {α β γ : Type} (m : M α) (f : α → M β) (g : β → M γ) : bnd (bnd m f) g = bnd m fun x => bnd (f x) g := by
  funext st
  unfold bnd
  cases m st <;> rfl
theorem DT.cmp {o : CmpOp} {k : COp} {r : R2} {C : Cfg} {A B : E} (ho : OpR X (compareOp o) r) (hg : OpB c r (cmpS k)) (ha : DE X c ek a (ev C A)) (hb : DE X c ek b (ev C B)) (hm : behindInMarks o b = false) :
    DT X c ek (.Compare a [o] [b] pos) (tev C (.cmp k A B)) := by
  obtain ⟨ta, pa, sa⟩ := ha
  obtain ⟨tb, pb, sb⟩ := hb
  refine ⟨tTest (tOp r ta tb), pt_cmpR ho pa pb hm, fun σ F la H en st Q re rs h => ?_⟩
  unfold tev at h
  rw [show ev C (.cmp k A B) en = (bnd (ev C A en) fun x => bnd (ev C B en) fun y => blM (cmpM k x.val y.val)) from rfl, bnd_assoc] at h
  refine sa.then_ re rs (PostG.bnd h) fun r1 s1 v F1 la1 H1 h1 x1 s2 q1 => ?_
  rw [bnd_assoc] at h1
  refine sb.then_ (re.mono x1.mono) s2 (PostG.imp (PostG.bnd h1) (fun _ _ _ z => z) fun _ _ _ z => z.later x1) fun r2 s3 u F2 la2 H2 h2 x2 s4 q2 => ?_
  rw [blM_tru] at h2
  unfold cmpM at h2
  cases e1 : cmpS k r1.val r2.val s3 with
  | none => rw [e1] at h2; exact h2.elim
  | some b =>
    rw [e1] at h2
    exact hg _ _ v u F2 la2 H2 s3 b _ s4 (q1.mono x2.mono) q2 e1 ⟨b, rfl, h2 F2 la2 H2 (x1.trans x2) s4⟩

/-! ### truth -/
theorem tru_is {v : V} {d : D} {k : Bool} (rs : StRel c F la H st) (q : Fz c F la v d) (h : truS st d = some k) : TruV c.K v H k := by
  cases q with
  | non => cases h; rfl
  | bl b => cases h; rfl
  | int i => cases h; rfl
  | str x => cases h
  | tup e t => cases h; exact .inr (.inl ⟨_, sqT_mono rs.sub e, by rw [t.empty]⟩)
  | lst e t => cases h; exact .inl ⟨_, .inl (.inl (rs.sub _ _ e)), by rw [t.empty]⟩
  | scr e t => cases h
  | dct _ _ _ => cases h
  | ins _ _ _ _ => cases h
  | @loc n p e =>
    have h : (match st[n]? with
      | some (.lst xs) => some (!xs.isEmpty)
      | _ => none) = some k := h
    cases e1 : st[n]? with
    | none => rw [e1] at h; cases h
    | some x =>
      rw [e1] at h
      cases x with
      | lst ds =>
        cases h
        obtain ⟨vs, h1, t⟩ := rs.get e e1
        exact .inl ⟨_, .inl (.inl h1), by rw [t.empty]⟩
      | dct _ _ => cases h
      | obj _ _ _ => cases h
theorem PostB.tru {Q : Bool → Hp → Prop} {d : D} {v : V} (h : PostB c ek F la H Q (truM d st)) (rs : StRel c F la H st) (q : Fz c F la v d) : ∃ k, TruV c.K v H k ∧ truS st d = some k ∧ Q k H := by
  unfold truM at h
  cases e : truS st d with
  | none => rw [e] at h; exact h.elim
  | some k =>
    rw [e] at h
    exact ⟨k, tru_is rs q e, rfl, h F la H .refl rs⟩
theorem DT.val {C : Cfg} {A : E} (ft : Ft X c) (ha : DE X c ek a (ev C A)) (he : ∀ whole, isTrue a X.env whole = (do let v ← whole; standAt a.pos; holding [v] (truthy v))) : DT X c ek a (tev C A) := by
  obtain ⟨ta, pa, sa⟩ := ha
  refine ⟨_, pt_truth pa he, fun σ F la H en st Q re rs h => ?_⟩
  refine sa.then_ re rs (PostG.bnd h) fun r s1 v F1 la1 H1 h1 x1 s2 q1 => ?_
  obtain ⟨k, t, _, q⟩ := (PostB.later x1 h1).tru s2 q1
  exact ⟨k, by rw [ft.K]; exact t, q⟩
theorem ST.then_ {t : TT} {m : En → M Bool} (h : ST c ek t m) {σ : L2.St} {en : En} (re : EnRel c F la σ en) (rs : StRel c F la H st) {Q : Bool → Hp → Prop} {P : Bool → Store → Prop}
    (hp : PostG (m en st) P (PostX c ek F la H)) (k : ∀ b s1 F1 la1 H1, P b s1 → Ext F la H F1 la1 H1 → StRel c F1 la1 H1 s1 → Q b H1) : t σ H Q :=
  h σ F la H en st Q re rs (PostG.imp hp (fun b s1 _ q F1 la1 H1 x1 s2 => k b s1 F1 la1 H1 q x1 s2) fun _ _ _ q => q)
/-- the truth of a value that is one of two -/
theorem bnd_congr {α β : Type} {m : M α} {f g : α → M β} (h : ∀ a s, f a s = g a s) : bnd m f = bnd m g := by
  funext st
  unfold bnd
  cases m st with
  | ok a s => exact h a s
  | exc _ _ _ => rfl
  | bad => rfl
theorem truM_cases (d : D) (s : Store) : (∃ k, truM d s = .ok k s) ∨ truM d s = .bad := by
  unfold truM
  cases truS s d with
  | some k => exact .inl ⟨k, rfl⟩
  | none => exact .inr rfl
theorem bnd_tru {β : Type} {d : D} {s : Store} {f g : Bool → M β} (h : ∀ k, truM d s = .ok k s → f k s = g k s) : bnd (truM d) f s = bnd (truM d) g s := by
  unfold bnd
  rcases truM_cases d s with ⟨k, e⟩ | e
  · rw [e]; exact h k e
  · rw [e]
theorem tev_and {C : Cfg} {A B : E} {en : En} : tev C (.and A B) en = bnd (tev C A en) fun k => if k then tev C B en else rtn false := by
  show bnd (bnd (ev C A en) fun x => bnd (truM x.val) fun k => if k then ev C B en else rtn (.d x.val)) (fun x => truM x.val) = bnd (bnd (ev C A en) fun x => truM x.val) _
  rw [bnd_assoc, bnd_assoc]
  refine bnd_congr fun r s => ?_
  rw [bnd_assoc]
  refine bnd_tru fun k e => ?_
  cases k with
  | true => rfl
  | false => exact e
theorem tev_or {C : Cfg} {A B : E} {en : En} : tev C (.or A B) en = bnd (tev C A en) fun k => if k then rtn true else tev C B en := by
  show bnd (bnd (ev C A en) fun x => bnd (truM x.val) fun k => if k then rtn (.d x.val) else ev C B en) (fun x => truM x.val) = bnd (bnd (ev C A en) fun x => truM x.val) _
  rw [bnd_assoc, bnd_assoc]
  refine bnd_congr fun r s => ?_
  rw [bnd_assoc]
  refine bnd_tru fun k e => ?_
  cases k with
  | false => rfl
  | true => exact e
theorem tev_not {C : Cfg} {A : E} {en : En} : tev C (.not A) en = bnd (tev C A en) fun k => rtn (!k) := by
  show bnd (bnd (ev C A en) fun x => bnd (truM x.val) fun k => rtn (R.d (.bl (!k)))) (fun x : R => truM x.val) = bnd (bnd (ev C A en) fun x => truM x.val) _
  rw [bnd_assoc, bnd_assoc]
  refine bnd_congr fun r s => ?_
  rw [bnd_assoc]
  exact bnd_tru fun k e => rfl
theorem tev_ite {C : Cfg} {A B G : E} {en : En} : tev C (.ite G A B) en = bnd (tev C G en) fun k => if k then tev C A en else tev C B en := by
  show bnd (bnd (ev C G en) fun x => bnd (truM x.val) fun k => if k then ev C A en else ev C B en) (fun x => truM x.val) = bnd (bnd (ev C G en) fun x => truM x.val) _
  rw [bnd_assoc, bnd_assoc]
  refine bnd_congr fun r s => ?_
  rw [bnd_assoc]
  refine bnd_tru fun k e => ?_
  cases k <;> rfl
/-- and, or within a test: the tail is a test of the same kind -/
def DW (X : Cx) (c : Cn) (ek : XK) (e : Expr) (m : En → M Bool) : Prop := ∃ t, PW X e t ∧ ST c ek t m
theorem DW.dt {m : En → M Bool} (h : DW X c ek e m) : DT X c ek e m := let ⟨t, p, s⟩ := h; ⟨t, p.pt, s⟩
theorem DW.and1 {m : En → M Bool} (h : DT X c ek a m) : DW X c ek (.BoolOp .And [a] pos) m := let ⟨t, p, s⟩ := h; ⟨t, pw_and1 p, s⟩
theorem DW.or1 {m : En → M Bool} (h : DT X c ek a m) : DW X c ek (.BoolOp .Or [a] pos) m := let ⟨t, p, s⟩ := h; ⟨t, pw_or1 p, s⟩
theorem DW.and {C : Cfg} {A B : E} (ha : DT X c ek a (tev C A)) (hb : DW X c ek (.BoolOp .And (b :: es) pos) (tev C B)) : DW X c ek (.BoolOp .And (a :: b :: es) pos) (tev C (.and A B)) := by
  obtain ⟨ta, pa, sa⟩ := ha
  obtain ⟨tb, pb, sb⟩ := hb
  refine ⟨tAnd ta tb, pw_and pa pb, fun σ F la H en st Q re rs h => ?_⟩
  rw [tev_and] at h
  refine sa.then_ re rs (PostG.bnd h) fun k s1 F1 la1 H1 h1 x1 s2 => ?_
  cases k with
  | true =>
    rw [if_pos rfl] at h1 ⊢
    exact sb σ F1 la1 H1 en s1 Q (re.mono x1.mono) s2 (PostB.later x1 h1)
  | false =>
    rw [if_neg Bool.false_ne_true] at h1 ⊢
    exact h1 F1 la1 H1 x1 s2
theorem DW.or {C : Cfg} {A B : E} (ha : DT X c ek a (tev C A)) (hb : DW X c ek (.BoolOp .Or (b :: es) pos) (tev C B)) : DW X c ek (.BoolOp .Or (a :: b :: es) pos) (tev C (.or A B)) := by
  obtain ⟨ta, pa, sa⟩ := ha
  obtain ⟨tb, pb, sb⟩ := hb
  refine ⟨tOr ta tb, pw_or pa pb, fun σ F la H en st Q re rs h => ?_⟩
  rw [tev_or] at h
  refine sa.then_ re rs (PostG.bnd h) fun k s1 F1 la1 H1 h1 x1 s2 => ?_
  cases k with
  | false =>
    rw [if_neg Bool.false_ne_true] at h1 ⊢
    exact sb σ F1 la1 H1 en s1 Q (re.mono x1.mono) s2 (PostB.later x1 h1)
  | true =>
    rw [if_pos rfl] at h1 ⊢
    exact h1 F1 la1 H1 x1 s2
theorem DT.not {C : Cfg} {A : E} (ha : DT X c ek a (tev C A)) : DT X c ek (.UnaryOp .Not a pos) (tev C (.not A)) := by
  obtain ⟨ta, pa, sa⟩ := ha
  refine ⟨tNot ta, pt_not pa, fun σ F la H en st Q re rs h => ?_⟩
  rw [tev_not] at h
  exact sa.then_ re rs (PostG.bnd h) fun k s1 F1 la1 H1 h1 x1 s2 => h1 F1 la1 H1 x1 s2
/-! ### and, or, not, if-else as values -/
theorem DE.one {op : BoolOp} {m : En → M R} (h : DE X c ek a m) : DE X c ek (.BoolOp op [a] pos) m := let ⟨t, p, s⟩ := h; ⟨t, pe_one p, s⟩
theorem DE.and {C : Cfg} {A B : E} (ft : Ft X c) (ha : DE X c ek a (ev C A)) (hb : DE X c ek (.BoolOp .And (b :: es) pos) (ev C B)) : DE X c ek (.BoolOp .And (a :: b :: es) pos) (ev C (.and A B)) := by
  obtain ⟨ta, pa, sa⟩ := ha
  obtain ⟨tb, pb, sb⟩ := hb
  refine ⟨tAndT X.K ta tb, pe_andT pa pb, fun σ F la H en st Q re rs h => ?_⟩
  refine sa.then_ re rs (PostG.bnd h) fun r s1 v F1 la1 H1 h1 x1 s2 q1 => ?_
  have h2 := PostG.bnd h1
  unfold truM at h2
  cases e : truS s1 r.val with
  | none => rw [e] at h2; exact h2.elim
  | some k =>
    rw [e] at h2
    refine ⟨k, by rw [ft.K]; exact tru_is s2 q1 e, ?_⟩
    cases k with
    | true => rw [if_pos rfl]; exact sb σ F1 la1 H1 en s1 Q (re.mono x1.mono) s2 (PostE.later x1 h2)
    | false => rw [if_neg Bool.false_ne_true]; exact h2 v F1 la1 H1 x1 s2 q1
theorem DE.or {C : Cfg} {A B : E} (ft : Ft X c) (ha : DE X c ek a (ev C A)) (hb : DE X c ek (.BoolOp .Or (b :: es) pos) (ev C B)) : DE X c ek (.BoolOp .Or (a :: b :: es) pos) (ev C (.or A B)) := by
  obtain ⟨ta, pa, sa⟩ := ha
  obtain ⟨tb, pb, sb⟩ := hb
  refine ⟨tOrT X.K ta tb, pe_orT pa pb, fun σ F la H en st Q re rs h => ?_⟩
  refine sa.then_ re rs (PostG.bnd h) fun r s1 v F1 la1 H1 h1 x1 s2 q1 => ?_
  have h2 := PostG.bnd h1
  unfold truM at h2
  cases e : truS s1 r.val with
  | none => rw [e] at h2; exact h2.elim
  | some k =>
    rw [e] at h2
    refine ⟨k, by rw [ft.K]; exact tru_is s2 q1 e, ?_⟩
    cases k with
    | false => rw [if_neg Bool.false_ne_true]; exact sb σ F1 la1 H1 en s1 Q (re.mono x1.mono) s2 (PostE.later x1 h2)
    | true => rw [if_pos rfl]; exact h2 v F1 la1 H1 x1 s2 q1
theorem DE.not {C : Cfg} {A : E} (ft : Ft X c) (ha : DE X c ek a (ev C A)) : DE X c ek (.UnaryOp .Not a pos) (ev C (.not A)) := by
  obtain ⟨ta, pa, sa⟩ := ha
  refine ⟨tNotT X.K ta, pe_notT pa, fun σ F la H en st Q re rs h => ?_⟩
  refine sa.then_ re rs (PostG.bnd h) fun r s1 v F1 la1 H1 h1 x1 s2 q1 => ?_
  have h2 := PostG.bnd h1
  unfold truM at h2
  cases e : truS s1 r.val with
  | none => rw [e] at h2; exact h2.elim
  | some k =>
    rw [e] at h2
    exact ⟨k, by rw [ft.K]; exact tru_is s2 q1 e, h2 _ F1 la1 H1 x1 s2 (.bl _)⟩
theorem DE.ite {C : Cfg} {A B G : E} {g : Expr} (hg : DT X c ek g (tev C G)) (ha : DE X c ek a (ev C A)) (hb : DE X c ek b (ev C B)) : DE X c ek (.IfExp g a b pos) (ev C (.ite G A B)) := by
  obtain ⟨tg, pg, sg⟩ := hg
  obtain ⟨ta, pa, sa⟩ := ha
  obtain ⟨tb, pb, sb⟩ := hb
  refine ⟨tIf tg ta tb, pe_ifExp pg pa pb, fun σ F la H en st Q re rs h => ?_⟩
  rw [show ev C (.ite G A B) en = bnd (tev C G en) fun k => if k then ev C A en else ev C B en by
    unfold tev
    rw [bnd_assoc]
    rfl] at h
  refine sg.then_ re rs (PostG.bnd h) fun k s1 F1 la1 H1 h1 x1 s2 => ?_
  cases k with
  | true => rw [if_pos rfl] at h1 ⊢; exact sa σ F1 la1 H1 en s1 Q (re.mono x1.mono) s2 (PostE.later x1 h1)
  | false => rw [if_neg Bool.false_ne_true] at h1 ⊢; exact sb σ F1 la1 H1 en s1 Q (re.mono x1.mono) s2 (PostE.later x1 h1)
end
end PD

/-! Tuples repeated, tuples summed. -/
namespace PD
open PySem PySem.Spec PyProof.Rows L2
theorem tuple_mulS (l : Addr) (items : Array Value) (n : Nat) (dd : Option Addr) (sl : Array (Option Value)) (x : Int) (u : Tok) (c0 : (decide (x < -(2 ^ 63)) || decide (x ≥ 2 ^ 63)) = false) (c1 : (items.isEmpty || x == 1) = true) :
    Meets (Builtin.«tuple.__mul__» ⟨[.ref l, .int x u], []⟩) (fun _ R s => s.heap.get? l = some { cls := .type "tuple", dict := dd, data := .seq items n, slots := sl } ∧
      R (.ok (.ret (Value.ref l))) s) :=
  .of_wp fun prog w A R s h => by
    obtain ⟨hp, g, d, tk, os⟩ := s
    obtain ⟨hl, h⟩ := h
    have f1 := AutoSeq1.idx_int
    wp_walk using wpAny_loadPart' hl
    repeat (first
      | (refine wpAny_ite_false (decide_eq_false (by rw [c0]; exact Bool.false_ne_true)) ?_; wp_walk using wpAny_loadPart' hl)
      | (refine wpAny_ite_true (decide_eq_true c1) ?_; wp_walk using wpAny_loadPart' hl))
    exact ⟨_, rfl, h⟩
theorem tuple_mulZ (l : Addr) (items : Array Value) (n : Nat) (dd : Option Addr) (sl : Array (Option Value)) (x : Int) (u : Tok) (c0 : (decide (x < -(2 ^ 63)) || decide (x ≥ 2 ^ 63)) = false) (c1 : (items.isEmpty || x == 1) = false) (c2 : (decide (x ≤ 0) || items.isEmpty) = true) :
    Meets (Builtin.«tuple.__mul__» ⟨[.ref l, .int x u], []⟩) (fun _ R s => s.heap.get? l = some { cls := .type "tuple", dict := dd, data := .seq items n, slots := sl } ∧
      R (.ok (.ret (Value.ref s.heap.objs.size))) { s with heap := s.heap.push { cls := Value.type "tuple", data := Data.seq #[] }, toks := s.toks }) :=
  .of_wp fun prog w A R s h => by
    obtain ⟨hp, g, d, tk, os⟩ := s
    obtain ⟨hl, h⟩ := h
    have f1 := AutoSeq1.idx_int
    wp_walk using wpAny_loadPart' hl
    repeat (first
      | (refine wpAny_ite_false (decide_eq_false (by rw [c0]; exact Bool.false_ne_true)) ?_; wp_walk using wpAny_loadPart' hl)
      | (refine wpAny_ite_false (decide_eq_false (by rw [c1]; exact Bool.false_ne_true)) ?_; wp_walk using wpAny_loadPart' hl)
      | (refine wpAny_ite_true (decide_eq_true c2) ?_; wp_walk using wpAny_loadPart' hl))
    exact ⟨_, rfl, h⟩
def rRepA (K : PySem.W.Frag) : R2 := fun x y H Q => ∃ l k xs, x = .ref l ∧ y = .int k ∧ SqT K H l xs ∧ -(2 ^ 63) ≤ k ∧ k < 2 ^ 63 ∧ xs.length * k.toNat ≤ 1000000 ∧
  ((xs = [] ∨ k = 1) → Q (.ref l) H) ∧ (¬ (xs = [] ∨ k = 1) → ∀ p, H p = none → Q (.ref p) (upd H p (.tup (List.replicate k.toNat xs).flatten)))
section
variable {X : Cx}
theorem op_repA : OpR X (binaryOp .Mult) (rRepA X.K) := by
  intro pins s σ H x y v u Q I rx ry h
  obtain ⟨l, k, xs, rfl, rfl, hT, h1, h2, hz, q1, q2⟩ := h
  cases rx
  obtain ⟨t, rfl⟩ := ry
  obtain ⟨its, r, ⟨⟨cls, dd, data, sl⟩, ho, hc, n, hd⟩, hs⟩ := I.tuple hT
  simp only at hc hd
  subst hc hd
  have hle : its.length = xs.length := r.length.symm
  have he : its.toArray.isEmpty = decide (xs = []) := by
    cases its with
    | nil => have : xs = [] := List.eq_nil_of_length_eq_zero hle.symm
             subst this; rfl
    | cons a b =>
      have : xs ≠ [] := fun e => by rw [e] at hle; cases hle
      rw [decide_eq_false this]; rfl
  have c0 : (decide (k < -(2 ^ 63)) || decide (k ≥ 2 ^ 63)) = false := by
    rw [decide_eq_false (by omega), decide_eq_false (by omega)] <;> rfl
  by_cases h3 : xs = [] ∨ k = 1
  · have c1 : (its.toArray.isEmpty || k == 1) = true := by
      rw [he]
      rcases h3 with e | e
      · rw [decide_eq_true e]; rfl
      · rw [e]; simp
    refine wpAny_binaryOp_repeat_ref (T := "tuple") (U := "int") (by decide) ⟨_, ho, rfl⟩ (fun s' => typeIs_int s' k t) noFill_tuple_mul F.fills_int_mul F.slot_int_rmul repeat_tuple F.slot_int_index.lookup
      (call_meets F.slot_int_rmul (typeIs_int s k t) F.entry_int_rmul (F.args_int_rmul_2 _ _) (int_rmul_tuple k t l its.toArray n dd sl)
        ⟨ho, rfl, ⟨_, ho, rfl⟩, call_meets F.slot_tuple_mul ⟨_, ho, rfl⟩ F.entry_tuple_mul (F.args_tuple_mul_2 _ _) (tuple_mulS l its.toArray n dd sl k t c0 c1) ⟨ho, ?_⟩⟩)
    exact ⟨.ref l, H, I, rfl, q1 h3⟩
  · have hne : xs ≠ [] := fun e => h3 (.inl e)
    have hk1 : k ≠ 1 := fun e => h3 (.inr e)
    have c1 : (its.toArray.isEmpty || k == 1) = false := by
      rw [he, decide_eq_false hne, Bool.false_or]
      exact beq_eq_false_iff_ne.mpr hk1
    have q2 := q2 h3
    by_cases h4 : k ≤ 0
    · have c2 : (decide (k ≤ 0) || its.toArray.isEmpty) = true := by rw [decide_eq_true h4]; rfl
      have e0 : (List.replicate k.toNat xs).flatten = [] := by rw [show k.toNat = 0 by omega]; rfl
      rw [e0] at q2
      refine wpAny_binaryOp_repeat_ref (T := "tuple") (U := "int") (by decide) ⟨_, ho, rfl⟩ (fun s' => typeIs_int s' k t) noFill_tuple_mul F.fills_int_mul F.slot_int_rmul repeat_tuple F.slot_int_index.lookup
        (call_meets F.slot_int_rmul (typeIs_int s k t) F.entry_int_rmul (F.args_int_rmul_2 _ _) (int_rmul_tuple k t l its.toArray n dd sl)
          ⟨ho, rfl, ⟨_, ho, rfl⟩, call_meets F.slot_tuple_mul ⟨_, ho, rfl⟩ F.entry_tuple_mul (F.args_tuple_mul_2 _ _) (tuple_mulZ l its.toArray n dd sl k t c0 c1 c2) ⟨ho, ?_⟩⟩)
      refine ⟨.ref s.heap.objs.size, _, I.laid (t' := s.toks) (o := .tup []) (fun b ob q => Heap.get?_push_of_some _ q) (Nat.le_refl _) ?_, rfl, q2 _ (I.hok.fresh (Nat.le_refl _))⟩
      exact ⟨Nat.zero_le _, [], .nil, IsTup.new _ _⟩
    · have c2 : (decide (k ≤ 0) || its.toArray.isEmpty) = false := by
        rw [he, decide_eq_false hne, decide_eq_false h4]; rfl
      have hsz0 : its.toArray.size = xs.length := by rw [List.size_toArray, hle]
      have hm : ((its.toArray.size : Nat) : Int) * k ≤ 1000000 := by
        rw [hsz0]
        have e : k = (k.toNat : Int) := by omega
        rw [e]
        have : ((xs.length * k.toNat : Nat) : Int) ≤ 1000000 := by omega
        rw [Int.natCast_mul] at this
        simpa using this
      have flen : (List.replicate k.toNat its).flatten.length ≤ sizeLine := by
        rw [PyProof.Rows.lm_len_rep_flat, hle, sizeLine_eq]
        have : xs.length * k.toNat = k.toNat * xs.length := Nat.mul_comm ..
        omega
      have c4 : Builtin.Tuple.tupleTooMany (((its.toArray.size : Nat) : Int) * k) = false := by
        unfold Builtin.Tuple.tupleTooMany
        rw [sizeLine_eq]
        exact decide_eq_false (by omega)
      refine wpAny_binaryOp_repeat_ref (T := "tuple") (U := "int") (by decide) ⟨_, ho, rfl⟩ (fun s' => typeIs_int s' k t) noFill_tuple_mul F.fills_int_mul F.slot_int_rmul repeat_tuple F.slot_int_index.lookup
        (call_meets F.slot_int_rmul (typeIs_int s k t) F.entry_int_rmul (F.args_int_rmul_2 _ _) (int_rmul_tuple k t l its.toArray n dd sl)
          ⟨ho, rfl, ⟨_, ho, rfl⟩, call_meets F.slot_tuple_mul ⟨_, ho, rfl⟩ F.entry_tuple_mul (F.args_tuple_mul_2 _ _) (tuple_mulW l its.toArray n dd sl k t c0 c1 c2 (by omega) c4 (by rw [size_rep, List.size_toArray]; exact flen)) ⟨ho, ?_⟩⟩)
      rw [size_rep]
      refine ⟨.ref s.heap.objs.size, _, I.laid (t' := s.toks) (o := .tup (List.replicate k.toNat xs).flatten) (fun b ob q => Heap.get?_push_of_some _ q) (Nat.le_refl _) ?_, rfl, q2 _ (I.hok.fresh (Nat.le_refl _))⟩
      exact ⟨by rw [PyProof.Rows.lm_len_rep_flat, sizeLine_eq]; have : xs.length * k.toNat = k.toNat * xs.length := Nat.mul_comm ..; omega, _, r.rep k.toNat, IsTup.new _ _⟩
end
/-! sum -/
section
variable {prog : Program} {w : World} {A : Around} {E : Value → Shared → Prop} {s : Shared} {l : Addr} {xs : Array (Int × Tok)}
theorem sum_intTup {Q : Value → Shared → Prop} (hh : A.handled = none) (hl : s.heap.IsTuple l (intItems xs))
    (h : ∀ h' tk t', (∀ b o, s.heap.get? b = some o → h'.get? b = some o) → Q (.int (preSum (numAt xs) xs.size) t') { s with heap := h', toks := tk }) :
    wpAny (model prog w) A (call (.builtin "sum") [.ref l]) Q E s := by
  have hlt : l < s.heap.objs.size := by obtain ⟨_, e, _⟩ := hl; exact Heap.lt_size e
  refine call_sum_walkG (wpAny_pyIter_tuple hl ?_)
  refine ⟨_, _, _, _, _, _, numAt xs, rfl, Walks.tuple (A := A.in1) hh _ l (Nat.ne_of_lt hlt) (intItems xs), ⟨⟨_, Heap.get?_push_size _ rfl, rfl, rfl⟩, hl.push _⟩, (fun b hb => ?_), (fun _ _ => intItems_at), fun h' tk t' hk => ?_⟩
  · show b < (s.heap.push _).objs.size
    rw [Heap.size_push]
    rcases List.mem_cons.mp hb with rfl | hb
    · exact Nat.lt_succ_self _
    · rcases List.mem_cons.mp hb with rfl | hb
      · exact Nat.lt_succ_of_lt hlt
      · cases hb
  · have := h h' tk t' fun b o e => hk b o (fun z => absurd (Heap.lt_size e) (by rw [List.mem_singleton.mp z]; exact Nat.lt_irrefl _)) (Heap.get?_push_of_some _ e)
    simpa [intItems] using this
theorem sum_rawT {its : List Value} {ns : List Int} {Q : Value → Shared → Prop} (hh : A.handled = none) (hl : s.heap.IsTuple l its.toArray) (hi : IntsAre its ns)
    (h : ∀ h' tk t', (∀ b o, s.heap.get? b = some o → h'.get? b = some o) → Q (.int ns.sum t') { s with heap := h', toks := tk }) : wpAny (model prog w) A (call (.builtin "sum") [.ref l]) Q E s := by
  obtain ⟨xs, e⟩ := hi.allInts.items
  have hn : numsOf (intItems xs).toList = ns := by rw [← e]; exact hi.numsOf
  rw [nums_intItems] at hn
  rw [e] at hl
  refine sum_intTup hh hl fun h' tk t' hk => ?_
  have := h h' tk t' hk
  rw [preSum_eq, List.take_of_length_le (by simp), hn]; exact this
end
def rSumA (K : PySem.W.Frag) : List V → Hp → VK → Prop := fun vs H Q => ∃ (a : Addr) (ns : List Int), vs = [V.ref a] ∧ (SqT K H a (ns.map V.int) ∨ SqL K H a (ns.map V.int)) ∧ Q (.int ns.sum) H
theorem cr_sumA {X : Cx} (hc : X.calm = true) : CallR X (.builtin "sum") (rSumA X.K) := by
  intro pins s σ H vs us Q I r h
  obtain ⟨a, ns, rfl, hs, q⟩ := h
  rw [Vals.ref1 r]
  rcases hs with hs | hs
  · obtain ⟨its, rv, hl, _⟩ := I.tuple hs
    exact sum_rawT (I.ok.hd hc) hl rv.ints fun h' tk t' hk => ⟨.int _, H, I.kept hk, ⟨_, rfl⟩, q⟩
  · obtain ⟨its, rv, hl, _⟩ := I.list hs
    exact sum_raw (I.ok.hd hc) hl.isList rv.ints fun h' tk t' hk => ⟨.int _, H, I.kept hk, ⟨_, rfl⟩, q⟩
end PD

/-! Operators, comparisons, items, slices, built-in functions, methods. -/
namespace PD
open PySem PySem.Spec PyProof.Rows L2

section
variable {X : Cx} {c : Cn} {ek : XK} {F F' H H' : Hp} {la la' : List Addr} {st : Store} {a b e : Expr} {es : List Expr} {ma mb mc : En → M R} {pos : Pos}

/-- a list just made -/
theorem PostE.fresh {Q : V → Hp → Prop} {xs : List D} {vs : List V} {p : Addr} (h : PostE c ek F la H Q (.ok (.fr xs) st)) (s : StRel c F la H st) (q : FzL c F la vs xs) (hp : H p = none) : Q (.ref p) (upd H p (.lst vs)) := by
  obtain ⟨x2, s3⟩ := ext_new (o := .lst vs) s hp
  have hF : F p = none := by
    cases e : F p with
    | none => rfl
    | some u => rw [s.sub p u e] at hp; cases hp
  exact h (.ref p) _ _ _ x2 s3 ⟨p, vs, rfl, upd_same, hp, hF, fun z => s.there z hp, q⟩
/-- a tuple just made -/
theorem PostE.tupled {Q : V → Hp → Prop} {xs : List D} {vs : List V} {p : Addr} (h : PostE c ek F la H Q (.ok (.d (.tup xs)) st)) (s : StRel c F la H st) (q : FzL c F la vs xs) (hp : H p = none) : Q (.ref p) (upd H p (.tup vs)) := by
  obtain ⟨x2, s3⟩ := ext_fix (o := .tup vs) s hp
  exact h (.ref p) _ _ _ x2 s3 (.tup (.inl (.inl upd_same)) (q.mono x2.mono))

/-! ### + -/
def rAddA (K : PySem.W.Frag) : R2 := fun x y H Q => rI0 (fun i j => .int (i + j)) x y H Q ∨ (∃ i k, x = .int i ∧ y = .bl k ∧ Q (.int (i + b2i k)) H) ∨
  (∃ i j, x = .str i ∧ y = .str j ∧ i.length + j.length ≤ sizeLine ∧ Q (.str (i ++ j)) H) ∨ rCatA K x y H Q ∨ rCat x y H Q
theorem op_addA : OpR X (binaryOp .Add) (rAddA X.K) := OpR.or op_add (OpR.or op_add_ib (OpR.or op_add_str (OpR.or op_catA op_cat)))
theorem opS_add : OpS c ek (rAddA c.K) addM := by
  intro x y v u F la H st Q rs q1 q2 h
  unfold addM at h
  split at h
  · cases q1; cases q2
    exact .inl ⟨_, _, rfl, rfl, PostE.now h rs (.int _)⟩
  · cases q1; cases q2
    refine .inr (.inl ⟨_, _, rfl, rfl, PostE.now h rs ?_⟩)
    rename_i i k
    cases k <;> exact .int _
  · cases q1; cases q2
    split at h
    · rename_i hl
      exact .inr (.inr (.inl ⟨_, _, rfl, rfl, lim_le hl, PostE.now h rs (.str _)⟩))
    · exact h.elim
  · split at h
    · rename_i hl
      cases q1 with
      | tup e1 t1 =>
        cases q2 with
        | tup e2 t2 =>
          refine .inr (.inr (.inr (.inl ⟨_, _, _, _, rfl, rfl, sqT_mono rs.sub e1, sqT_mono rs.sub e2, by rw [t1.length, t2.length]; exact lim_le hl, fun z => ?_, fun _ z => ?_, fun _ _ p hp => ?_⟩)))
          · subst z; cases t1
            exact PostE.now h rs (.tup e2 t2)
          · subst z; cases t2
            exact PostE.now h rs (.tup e1 (by rw [List.append_nil]; exact t1))
          · exact PostE.tupled h rs (t1.append t2) hp
    · exact h.elim
  · dsimp only at h
    split at h
    · rename_i h1 h2
      split at h
      · rename_i hl
        obtain ⟨p1, v1, rfl, e1, t1⟩ := lstOf_is rs q1 h1
        obtain ⟨p2, v2, rfl, e2, t2⟩ := lstOf_is rs q2 h2
        exact .inr (.inr (.inr (.inr ⟨_, _, _, _, rfl, rfl, e1, e2, by rw [t1.length, t2.length]; exact lim_le hl, fun p hp => PostE.fresh h rs (t1.append t2) hp⟩)))
      · exact h.elim
    · exact h.elim
/-! ### -, *, //, %, ** -/
theorem opS_sub : OpS c ek (rI0 fun i j => .int (i - j)) (binM .sub) := by
  intro x y v u F la H st Q rs q1 q2 h
  unfold binM at h
  dsimp only at h
  split at h
  · cases q1; cases q2
    exact ⟨_, _, rfl, rfl, PostE.now h rs (.int _)⟩
  · exact h.elim
theorem op_mulA0 : OpR X (binaryOp .Mult) (rI (fun i j => mulOk i j = true) fun i j => .int (i * j)) := opI fun i j _ _ _ _ _ hc q => by
  refine mul_int q ?_
  unfold mulOk at hc
  rw [Bool.or_eq_true, Bool.or_eq_true, Bool.and_eq_true, Bool.and_eq_true] at hc
  rcases hc with (⟨h1, h2⟩ | ⟨h1, h2⟩) | h1
  · exact CMul.ok (.inl ⟨of_decide_eq_true h1, of_decide_eq_true h2⟩)
  · exact CMul.ok (.inr ⟨of_decide_eq_true h1, of_decide_eq_true h2⟩)
  · have h2 : i.natAbs.log2 + j.natAbs.log2 < 1000000 := of_decide_eq_true h1
    exact CMulW.ok h2
def rMulA (K : PySem.W.Frag) : R2 := fun x y H Q => rI (fun i j => mulOk i j = true) (fun i j => .int (i * j)) x y H Q ∨ rRep x y H Q ∨ rRepA K x y H Q
theorem op_mulA : OpR X (binaryOp .Mult) (rMulA X.K) := OpR.or op_mulA0 (OpR.or op_rep op_repA)
theorem lim_int {k : Int} (h : lim k.natAbs = true) : -(2 ^ 63) ≤ k ∧ k < 2 ^ 63 := by
  have := of_decide_eq_true h
  omega
theorem opS_mul : OpS c ek (rMulA c.K) mulM := by
  intro x y v u F la H st Q rs q1 q2 h
  unfold mulM at h
  split at h
  · cases q1; cases q2
    split at h
    · rename_i hl
      exact .inl ⟨_, _, rfl, rfl, hl, PostE.now h rs (.int _)⟩
    · exact h.elim
  · rename_i a k
    cases q2
    cases q1 with
    | @tup p vs _ e t =>
    split at h
    · rename_i hl
      rw [Bool.and_eq_true] at hl
      obtain ⟨k1, k2⟩ := lim_int hl.2
      have hz : vs.length * k.toNat ≤ 1000000 := by rw [t.length]; exact of_decide_eq_true hl.1
      refine .inr (.inr ⟨p, k, vs, rfl, rfl, sqT_mono rs.sub e, k1, k2, hz, fun h3 => ?_, fun _ p' hp => PostE.tupled h rs (t.replicate _) hp⟩)
      have ef : (List.replicate k.toNat a).flatten = a := by
        rcases h3 with h3 | h3
        · have : a = [] := by
            have := t.length
            rw [h3] at this
            exact List.eq_nil_of_length_eq_zero this.symm
          subst this
          simp
        · rw [h3]; simp
      rw [ef] at h
      exact PostE.now h rs (.tup e t)
    · exact h.elim
  · dsimp only at h
    split at h
    · rename_i h1
      split at h
      · rename_i hl
        rw [Bool.and_eq_true] at hl
        obtain ⟨p1, v1, rfl, e1, t1⟩ := lstOf_is rs q1 h1
        cases q2
        obtain ⟨k1, k2⟩ := lim_int hl.2
        exact .inr (.inl ⟨_, _, _, rfl, rfl, e1, k1, k2, by rw [t1.length]; exact lim_le hl.1, fun p hp => PostE.fresh h rs (t1.replicate _) hp⟩)
      · exact h.elim
    · exact h.elim
  · exact h.elim
theorem op_fdivG : OpR X (binaryOp .FloorDiv) (rI (fun _ j => divOk j = true) fun i j => .int (i.fdiv j)) := opI fun _ j _ _ _ _ _ hc q => by
  unfold divOk at hc
  rw [Bool.and_eq_true] at hc
  exact floordiv_int (of_decide_eq_true hc.1) q (.inl (PyProof.noPylong_of_log2 (of_decide_eq_true hc.2)))
theorem opS_fdiv : OpS c ek (rI (fun _ j => divOk j = true) fun i j => .int (i.fdiv j)) (binM .fdiv) := by
  intro x y v u F la H st Q rs q1 q2 h
  unfold binM at h
  dsimp only at h
  split at h
  · cases q1; cases q2
    split at h
    · rename_i hl
      exact ⟨_, _, rfl, rfl, hl, PostE.now h rs (.int _)⟩
    · exact h.elim
  · exact h.elim
theorem opS_mod : OpS c ek (rI (fun _ j => j ≠ 0) fun i j => .int (i.fmod j)) (binM .mod) := by
  intro x y v u F la H st Q rs q1 q2 h
  unfold binM at h
  dsimp only at h
  split at h
  · cases q1; cases q2
    split at h
    · rename_i hl
      exact ⟨_, _, rfl, rfl, of_decide_eq_true hl, PostE.now h rs (.int _)⟩
    · exact h.elim
  · exact h.elim
theorem op_powG : OpR X (binaryOp .Pow) (rI (fun i j => 0 ≤ j ∧ (Builtin.Int.intBits i : Int) * j ≤ 2 ^ 27) fun i j => .int (i ^ j.toNat)) := opI fun _ _ _ _ _ _ _ hc q => pow_int hc.1 hc.2 q
theorem opS_pow : OpS c ek (rI (fun i j => 0 ≤ j ∧ (Builtin.Int.intBits i : Int) * j ≤ 2 ^ 27) fun i j => .int (i ^ j.toNat)) (binM .pow) := by
  intro x y v u F la H st Q rs q1 q2 h
  unfold binM at h
  dsimp only at h
  split at h
  · cases q1; cases q2
    split at h
    · rename_i hl
      rw [Bool.and_eq_true] at hl
      exact ⟨_, _, rfl, rfl, ⟨of_decide_eq_true hl.1, of_decide_eq_true hl.2⟩, PostE.now h rs (.int _)⟩
    · exact h.elim
  · exact h.elim
/-- the operator's rule -/
theorem DE.bin {C : Cfg} {A B : E} {k : BOp} {o : Operator} (ft : Ft X c) (ha : DE X c ek a (ev C A)) (hb : DE X c ek b (ev C B))
    (hk : (k, o) ∈ [(BOp.add, Operator.Add), (.sub, .Sub), (.mul, .Mult), (.fdiv, .FloorDiv), (.mod, .Mod), (.pow, .Pow)]) : DE X c ek (.BinOp a o b pos) (ev C (.bin k A B)) := by
  have hK := ft.K
  simp only [List.mem_cons, Prod.mk.injEq, List.not_mem_nil, or_false] at hk
  rcases hk with ⟨rfl, rfl⟩ | ⟨rfl, rfl⟩ | ⟨rfl, rfl⟩ | ⟨rfl, rfl⟩ | ⟨rfl, rfl⟩ | ⟨rfl, rfl⟩
  · exact DE.op op_addA (by rw [hK]; exact opS_add) ha hb
  · exact DE.op op_sub opS_sub ha hb
  · exact DE.op op_mulA (by rw [hK]; exact opS_mul) ha hb
  · exact DE.op op_fdivG opS_fdiv ha hb
  · exact DE.op op_modN opS_mod ha hb
  · exact DE.op op_powG opS_pow ha hb
theorem DE.neg {C : Cfg} {A : E} (ha : DE X c ek a (ev C A)) : DE X c ek (.UnaryOp .USub a pos) (ev C (.neg A)) := by
  obtain ⟨ta, pa, sa⟩ := ha
  refine ⟨_, pe_un un_neg pa, fun σ F la H en st Q re rs h => ?_⟩
  refine sa.then_ re rs (PostG.bnd h) fun r s1 v F1 la1 H1 h1 x1 s2 q1 => ?_
  cases e1 : r.val with
  | int i =>
    rw [e1] at q1 h1
    cases q1
    exact ⟨_, rfl, PostE.now (PostE.later x1 h1) s2 (.int _)⟩
  | _ => rw [e1] at h1; exact h1.elim

/-! ### data and comparisons -/
mutual
theorem dp_of (hs : ∀ a o, F a = some o → H a = some o) : ∀ {v : V} {d : D} {p : PyData}, Fz c F la v d → d.py = some p → Dp c.K H v p
  | _, _, _, .non, e => by simp only [D.py, Option.some.injEq] at e; subst e; exact .non
  | _, _, _, .bl b, e => by simp only [D.py, Option.some.injEq] at e; subst e; exact .bl b
  | _, _, _, .int i, e => by simp only [D.py, Option.some.injEq] at e; subst e; exact .int i
  | _, _, _, .str x, e => by simp only [D.py, Option.some.injEq] at e; subst e; exact .str x
  | _, _, _, .tup h t, e => by
    simp only [D.py, Option.map_eq_some_iff] at e
    obtain ⟨ps, e, rfl⟩ := e
    exact .tup (sqT_mono hs h) (dpAll_of hs t e)
  | _, _, _, .lst h t, e => by
    simp only [D.py, Option.map_eq_some_iff] at e
    obtain ⟨ps, e, rfl⟩ := e
    exact .lst (.inl (.inl (hs _ _ h))) (dpAll_of hs t e)
  | _, _, _, .scr _ _, e => by simp [D.py] at e
  | _, _, _, .dct _ _ _, e => by simp [D.py] at e
  | _, _, _, .ins _ _ _ _, e => by simp [D.py] at e
  | _, _, _, .loc _, e => by simp [D.py] at e
theorem dpAll_of (hs : ∀ a o, F a = some o → H a = some o) : ∀ {vs : List V} {ds : List D} {ps : List PyData}, FzL c F la vs ds → pyL ds = some ps → DpAll c.K H vs ps
  | _, _, _, .nil, e => by simp only [pyL, Option.some.injEq] at e; subst e; exact .nil
  | _, _, _, @FzL.cons _ _ _ v vs d ds r t, e => by
    simp only [pyL] at e
    cases e1 : d.py with
    | none => rw [e1] at e; cases e
    | some p =>
      cases e2 : pyL ds with
      | none => rw [e1, e2] at e; cases e
      | some ps =>
        rw [e1, e2] at e
        cases e
        exact .cons (dp_of hs r e1) (dpAll_of hs t e2)
end
theorem dpS_of (rs : StRel c F la H st) {v : V} {d : D} {p : PyData} (q : Fz c F la v d) (e : pyS st d = some p) : Dp c.K H v p := by
  cases q with
  | @loc n a h =>
    have e : (match st[n]? with
      | some (.lst xs) => (pyL xs).map PyData.list
      | _ => none) = some p := e
    cases e1 : st[n]? with
    | none => rw [e1] at e; cases e
    | some x =>
      rw [e1] at e
      cases x with
      | lst ds =>
        have e2 : (pyL ds).map PyData.list = some p := e
        rw [Option.map_eq_some_iff] at e2
        obtain ⟨ps, e3, e4⟩ := e2
        subst e4
        obtain ⟨vs, h1, t⟩ := rs.get h e1
        exact .lst (.inl (.inl h1)) (dpAll_of rs.sub t e3)
      | dct _ _ => cases e
      | obj _ _ _ => cases e
  | non => exact dp_of (la := la) rs.sub .non e
  | bl b => exact dp_of (la := la) rs.sub (.bl b) e
  | int i => exact dp_of (la := la) rs.sub (.int i) e
  | str x => exact dp_of (la := la) rs.sub (.str x) e
  | tup h t => exact dp_of rs.sub (.tup h t) e
  | lst h t => exact dp_of rs.sub (.lst h t) e
  | scr h t => exact dp_of rs.sub (.scr h t) e
  | dct h l t => exact dp_of rs.sub (.dct h l t) e
  | ins h l k t => exact dp_of rs.sub (.ins h l k t) e
theorem eqS_is {x y : D} {b : Bool} (h : eqS st x y = some b) : ∃ p q, pyS st x = some p ∧ pyS st y = some q ∧ SeqAt.shaped p = true ∧ SeqAt.shaped q = true ∧ PyData.eqv p q = b := by
  unfold eqS at h
  split at h
  · rename_i p q e1 e2
    split at h
    · rename_i hs
      rw [Bool.and_eq_true] at hs
      cases h
      exact ⟨p, q, e1, e2, hs.1, hs.2, rfl⟩
    · cases h
  · cases h
theorem opB_eq : OpB c (rEqD c.K) (cmpS .eq) := by
  intro x y v u F la H st b Q rs q1 q2 h q
  obtain ⟨p, p', e1, e2, s1, s2, rfl⟩ := eqS_is h
  exact ⟨p, p', dpS_of rs q1 e1, dpS_of rs q2 e2, s1, s2, q⟩
theorem opB_ne : OpB c (rNeD c.K) (cmpS .ne) := by
  intro x y v u F la H st b Q rs q1 q2 h q
  have h1 : (eqS st x y).map (!·) = some b := h
  rw [Option.map_eq_some_iff] at h1
  obtain ⟨b', h2, e3⟩ := h1
  subst e3
  obtain ⟨p, p', e1, e2, s1, s2, e4⟩ := eqS_is h2
  subst e4
  exact ⟨p, p', dpS_of rs q1 e1, dpS_of rs q2 e2, s1, s2, q⟩
theorem opB_lt : OpB c (rI0 fun i j => .bl (decide (i < j))) (cmpS .lt) := by
  intro x y v u F la H st b Q rs q1 q2 h q
  unfold cmpS at h
  dsimp only at h
  split at h
  · cases q1; cases q2; cases h; exact ⟨_, _, rfl, rfl, q⟩
  · cases h
theorem opB_le : OpB c (rI0 fun i j => .bl (decide (i ≤ j))) (cmpS .le) := by
  intro x y v u F la H st b Q rs q1 q2 h q
  unfold cmpS at h
  dsimp only at h
  split at h
  · cases q1; cases q2; cases h; exact ⟨_, _, rfl, rfl, q⟩
  · cases h
theorem opB_gt : OpB c (rI0 fun i j => .bl (decide (j < i))) (cmpS .gt) := by
  intro x y v u F la H st b Q rs q1 q2 h q
  unfold cmpS at h
  dsimp only at h
  split at h
  · cases q1; cases q2; cases h; exact ⟨_, _, rfl, rfl, q⟩
  · cases h
theorem opB_ge : OpB c (rI0 fun i j => .bl (decide (j ≤ i))) (cmpS .ge) := by
  intro x y v u F la H st b Q rs q1 q2 h q
  unfold cmpS at h
  dsimp only at h
  split at h
  · cases q1; cases q2; cases h; exact ⟨_, _, rfl, rfl, q⟩
  · cases h
def rIsA : R2 := fun x y H Q => (y = .non ∧ Q (.bl (decide (x = .non))) H) ∨ rIsB x y H Q
def rNotA : R2 := fun x y H Q => (y = .non ∧ Q (.bl (!decide (x = .non))) H) ∨ rNotB x y H Q
theorem op_isA : OpR X (compareOp .Is) rIsA := OpR.or op_isN op_isBl
theorem op_notA : OpR X (compareOp .IsNot) rNotA := OpR.or op_notN op_notBl
theorem non_ne {v : V} {d : D} (q : Fz c F la v d) (h : d ≠ .non) : decide (v = .non) = false := by
  refine decide_eq_false fun z => ?_
  subst z
  cases q
  exact h rfl
theorem opB_is : OpB c rIsA (cmpS .is) := by
  intro x y v u F la H st b Q rs q1 q2 h q
  unfold cmpS at h
  dsimp only at h
  split at h
  · cases q1; cases q2; cases h; exact .inl ⟨rfl, q⟩
  · rename_i hx
    cases q2; cases h
    exact .inl ⟨rfl, by rw [non_ne q1 hx]; exact q⟩
  · cases q1; cases q2; cases h; exact .inr ⟨_, _, rfl, rfl, q⟩
  · cases h
theorem opB_isn : OpB c rNotA (cmpS .isn) := by
  intro x y v u F la H st b Q rs q1 q2 h q
  unfold cmpS at h
  dsimp only at h
  split at h
  · cases q1; cases q2; cases h; exact .inl ⟨rfl, q⟩
  · rename_i hx
    cases q2; cases h
    exact .inl ⟨rfl, by rw [non_ne q1 hx]; exact q⟩
  · cases q1; cases q2; cases h; exact .inr ⟨_, _, rfl, rfl, q⟩
  · cases h
/-- the comparisons' table -/
def cops : List (COp × CmpOp) := [(.eq, .Eq), (.ne, .NotEq), (.lt, .Lt), (.le, .LtE), (.gt, .Gt), (.ge, .GtE), (.is, .Is), (.isn, .IsNot)]
theorem cop_rule {k : COp} {o : CmpOp} (ft : Ft X c) (hk : (k, o) ∈ cops) : ∃ r, OpR X (compareOp o) r ∧ OpB c r (cmpS k) ∧ ∀ b, behindInMarks o b = false := by
  have hK := ft.K
  have hu : X.A.units + 64 < cLine := by have := ft.un; omega
  simp only [cops, List.mem_cons, Prod.mk.injEq, List.not_mem_nil, or_false] at hk
  rcases hk with ⟨rfl, rfl⟩ | ⟨rfl, rfl⟩ | ⟨rfl, rfl⟩ | ⟨rfl, rfl⟩ | ⟨rfl, rfl⟩ | ⟨rfl, rfl⟩ | ⟨rfl, rfl⟩ | ⟨rfl, rfl⟩
  · exact ⟨_, op_eqD hu, by rw [hK]; exact opB_eq, fun b => nomark b⟩
  · exact ⟨_, op_neD hu, by rw [hK]; exact opB_ne, fun b => nomark b⟩
  · exact ⟨_, op_lt, opB_lt, fun b => nomark b⟩
  · exact ⟨_, op_le, opB_le, fun b => nomark b⟩
  · exact ⟨_, op_gt, opB_gt, fun b => nomark b⟩
  · exact ⟨_, op_ge, opB_ge, fun b => nomark b⟩
  · exact ⟨_, op_isA, opB_is, fun b => nomark b⟩
  · exact ⟨_, op_notA, opB_isn, fun b => nomark b⟩
theorem DE.cmpK {C : Cfg} {A B : E} {k : COp} {o : CmpOp} (ft : Ft X c) (hk : (k, o) ∈ cops) (ha : DE X c ek a (ev C A)) (hb : DE X c ek b (ev C B)) : DE X c ek (.Compare a [o] [b] pos) (ev C (.cmp k A B)) :=
  let ⟨_, h1, h2, h3⟩ := cop_rule ft hk
  DE.cmp h1 h2 ha hb (h3 b)
theorem DT.cmpK {C : Cfg} {A B : E} {k : COp} {o : CmpOp} (ft : Ft X c) (hk : (k, o) ∈ cops) (ha : DE X c ek a (ev C A)) (hb : DE X c ek b (ev C B)) : DT X c ek (.Compare a [o] [b] pos) (tev C (.cmp k A B)) :=
  let ⟨_, h1, h2, h3⟩ := cop_rule ft hk
  DT.cmp h1 h2 ha hb (h3 b)
end
end PD

/-! Items, slices, built-in functions, methods, cells. -/
namespace PD
open PySem PySem.Spec PyProof.Rows L2

section
variable {X : Cx} {c : Cn} {ek : XK} {F F' H H' : Hp} {la la' : List Addr} {st : Store} {a b e : Expr} {es : List Expr} {ma mb mc : En → M R} {pos : Pos}

/-! ### items -/
def rIxA (K : PySem.W.Frag) : R2 := fun x y H Q => rIxL K x y H Q ∨ rIxT K x y H Q
theorem at_is {vs : List V} {ds : List D} {k : Int} {d : D} (t : FzL c F la vs ds) (h : (ixN ds.length k).bind (ds[·]?) = some d) : ∃ v, atI vs k = some v ∧ Fz c F la v d := by
  unfold atI
  rw [t.length]
  have e0 : L2.ixN ds.length k = ixN ds.length k := rfl
  rw [e0]
  cases e : ixN ds.length k with
  | none => rw [e] at h; cases h
  | some j =>
    rw [e] at h
    obtain ⟨v, h1, h2⟩ := t.get (show ds[j]? = some d from h)
    exact ⟨v, h1, h2⟩
theorem opS_idx : OpS c ek (rIxA c.K) idxM := by
  intro x y v u F la H st Q rs q1 q2 h
  cases q2 with
  | int k =>
    cases q1 with
    | @tup p vs ds e t =>
      have h : PostE c ek F la H Q (match (ixN ds.length k).bind (ds[·]?) with
        | some d => .ok (.d d) st
        | none => .bad) := h
      split at h
      · rename_i d e1
        obtain ⟨w, h1, h2⟩ := at_is t e1
        exact .inr ⟨_, _, _, w, rfl, rfl, sqT_mono rs.sub e, h1, PostE.now h rs h2⟩
      · exact h.elim
    | @lst p vs ds e t =>
      have h : PostE c ek F la H Q (match (ixN ds.length k).bind (ds[·]?) with
        | some d => .ok (.d d) st
        | none => .bad) := h
      split at h
      · rename_i d e1
        obtain ⟨w, h1, h2⟩ := at_is t e1
        exact .inl ⟨_, _, _, w, rfl, rfl, .inl (.inl (rs.sub _ _ e)), h1, PostE.now h rs h2⟩
      · exact h.elim
    | @loc n p e =>
      have h : PostE c ek F la H Q (match st[n]? with
        | some (.lst xs) => match (ixN xs.length k).bind (xs[·]?) with
          | some d => .ok (.d d) st
          | none => .bad
        | _ => .bad) := h
      split at h
      · rename_i ds e0
        split at h
        · rename_i d e1
          obtain ⟨vs, g1, t⟩ := rs.get e e0
          obtain ⟨w, h1, h2⟩ := at_is t e1
          exact .inl ⟨_, _, _, w, rfl, rfl, .inl (.inl g1), h1, PostE.now h rs h2⟩
        · exact h.elim
      · exact h.elim
    | _ => exact h.elim
  | _ => exact h.elim
theorem DE.idx {C : Cfg} {A B : E} (ft : Ft X c) (ha : DE X c ek a (ev C A)) (hb : DE X c ek b (ev C B)) (hs : PlainIx b) : DE X c ek (.Subscript a b pos) (ev C (.idx A B)) :=
  DE.ix (IxR.or ix_list ix_tup) (by rw [ft.K]; exact opS_idx) ha hb hs
/-! ### dicts by written keys -/
theorem klook_is {k : Key} : ∀ {ks : List Key} {vs : List V} {ds : List D} {d : D}, FzL c F la vs ds → klook ks ds k = some d → ∃ v, valV (ks.zip vs) k = some v ∧ Fz c F la v d
  | [], _, _, _, _, e => by simp [klook] at e
  | _ :: _, _, _, _, .nil, e => by simp [klook] at e
  | k' :: ks, _, _, d, @FzL.cons _ _ _ v vs d' ds r t, e => by
    by_cases hk : k' = k
    · simp only [klook, if_pos hk, Option.some.injEq] at e
      subst e
      exact ⟨v, by rw [List.zip_cons_cons]; exact valV_pos hk, r⟩
    · simp only [klook, if_neg hk] at e
      obtain ⟨w, h1, h2⟩ := klook_is t e
      exact ⟨w, by rw [List.zip_cons_cons, valV_neg hk]; exact h1, h2⟩
theorem DE.key {C : Cfg} {A : E} {k : Str} {j : Nat} {p2 : Pos} (ft : Ft X c) (ha : DE X c ek a (ev C A)) : DE X c ek (.Subscript a (.Constant (.str k) j p2) pos) (ev C (.key A k)) := by
  obtain ⟨ta, pa, sa⟩ := ha
  refine ⟨_, pe_dget (by have := ft.un; omega) pa pe_str (fun _ _ => rfl), fun σ F la H en st Q re rs h => ?_⟩
  refine sa.then_ re rs (PostG.bnd h) fun r s1 v F1 la1 H1 h1 x1 s2 q1 => ?_
  cases e1 : r.val with
  | loc n =>
    rw [e1] at q1 h1
    cases q1 with
    | @loc _ p el =>
      have h1 : PostE c ek F la H Q (match s1[n]? with
        | some (.dct ks vs) => match klook ks vs (Sum.inr k) with
          | some d => .ok (.d d) s1
          | none => .bad
        | _ => .bad) := h1
      split at h1
      · rename_i ks ds e2
        split at h1
        · rename_i d e3
          obtain ⟨vs, g1, gl, t⟩ := s2.get el e2
          obtain ⟨w, g2, g3⟩ := klook_is t e3
          exact ⟨p, w, rfl, by rw [← g2]; exact DGet.k (k := Sum.inr k) g1, PostE.now (PostE.later x1 h1) s2 g3⟩
        · exact h1.elim
      · exact h1.elim
  | _ => rw [e1] at h1; exact h1.elim

/-! ### slices -/
theorem cut_is {vs : List V} {ds : List D} (t : FzL c F la vs ds) (lo hi : Option Int) : FzL c F la (cutV vs lo hi) (cutL ds lo hi) := by
  unfold cutV cutL
  rw [t.length]
  exact (t.drop _).take _
/-- a slice's bound -/
def DO (X : Cx) (c : Cn) (ek : XK) (e : Option Expr) (l : Bool) (m : En → M R) : Prop :=
  ∃ t, PO X e t ∧ ∀ (σ : L2.St) (F : Hp) (la : List Addr) (H : Hp) (en : En) (st : Store) (Q : Option Int → Hp → Prop) (P : Option Int → Store → Prop), EnRel c F la σ en → StRel c F la H st →
    PostG (bnd (m en) (fun y => bndM l y.val) st) P (PostX c ek F la H) → (∀ o s1 F1 la1 H1, P o s1 → Ext F la H F1 la1 H1 → StRel c F1 la1 H1 s1 → Q o H1) → t σ H Q
theorem DO.no {C : Cfg} : DO X c ek none false (ev C .nil) :=
  ⟨tNoPart, po_none, fun σ F la H en st Q P re rs h k => k none st F la H h .refl rs⟩
theorem DO.yes {m : En → M R} (ha : DE X c ek a m) : DO X c ek (some a) true m := by
  obtain ⟨ta, pa, sa⟩ := ha
  refine ⟨tPart ta, po_some pa, fun σ F la H en st Q P re rs h k => ?_⟩
  refine sa.then_ re rs (PostG.bnd h) fun r s1 v F1 la1 H1 h1 x1 s2 q1 => ?_
  cases e1 : r.val with
  | int i =>
    rw [e1] at q1 h1
    cases q1
    exact ⟨i, rfl, k _ s1 F1 la1 H1 h1 x1 s2⟩
  | _ => rw [e1] at h1; exact h1.elim
def rSlAll (K : PySem.W.Frag) : V → Option Int → Option Int → Hp → VK → Prop := fun x lo hi H Q => rSlA K x lo hi H Q ∨ rSlL K x lo hi H Q
theorem DE.slc {C : Cfg} {A L G : E} {l h : Bool} {lo hi : Option Expr} {p2 : Pos} (ft : Ft X c) (ha : DE X c ek a (ev C A)) (hl : DO X c ek lo l (ev C L)) (hh : DO X c ek hi h (ev C G)) :
    DE X c ek (.Subscript a (.Slice lo hi none p2) pos) (ev C (.slc A l L h G)) := by
  obtain ⟨ta, pa, sa⟩ := ha
  obtain ⟨tl, pl, sl⟩ := hl
  obtain ⟨th, ph, sh⟩ := hh
  refine ⟨tSl (rSlAll X.K) ta tl th, pe_slice (SlR.or sl_tupA sl_list) pa pl ph, fun σ F la H en st Q re rs h => ?_⟩
  rw [ft.K]
  refine sa.then_ re rs (PostG.bnd h) fun r s1 v F1 la1 H1 h1 x1 s2 q1 => ?_
  have h2 := h1
  rw [← bnd_assoc] at h2
  refine sl σ F1 la1 H1 en s1 _ _ (re.mono x1.mono) s2 (PostG.imp (PostG.bnd h2) (fun _ _ _ z => z) fun _ _ _ z => z.later x1) fun o s3 F2 la2 H2 h3 x2 s4 => ?_
  rw [← bnd_assoc] at h3
  refine sh σ F2 la2 H2 en s3 _ _ (re.mono (x1.trans x2).mono) s4 (PostG.imp (PostG.bnd h3) (fun _ _ _ z => z) fun _ _ _ z => z.later (x1.trans x2)) fun u s5 F3 la3 H3 h4 x3 s6 => ?_
  have q3 := q1.mono (x2.trans x3).mono
  have h5 := PostE.later (x1.trans (x2.trans x3)) h4
  cases e1 : r.val with
  | tup ds =>
    rw [e1] at q3 h5
    cases q3 with
    | @tup p vs _ e t =>
      have cut := cut_is t o u
      have e' := sqT_mono s6.sub e
      refine .inl ⟨p, vs, rfl, e', fun ⟨z1, z2⟩ => ?_, fun _ q hq => PostE.tupled h5 s6 cut hq⟩
      have full : cutV vs o u = vs := by
        unfold cutV
        rw [z1, z2]
        simp
      rw [full] at cut
      exact PostE.now h5 s6 (.tup e cut)
  | lst ds =>
    rw [e1] at q3 h5
    cases q3 with
    | @lst p vs _ e t => exact .inr ⟨p, vs, rfl, .inl (.inl (s6.sub _ _ e)), fun q hq => PostE.fresh h5 s6 (cut_is t o u) hq⟩
  | scr ds =>
    rw [e1] at q3 h5
    cases q3 with
    | @scr p vs _ e t => exact .inr ⟨p, vs, rfl, sqL_mono s6.sub e, fun q hq => PostE.fresh h5 s6 (cut_is t o u) hq⟩
  | loc n =>
    rw [e1] at q3 h5
    cases q3 with
    | @loc _ p e =>
      have h6 : PostE c ek F3 la3 H3 Q (match s5[n]? with
        | some (.lst xs) => .ok (.fr (cutL xs o u)) s5
        | _ => .bad) := h5
      split at h6
      · rename_i ds e2
        obtain ⟨vs, g1, t⟩ := s6.get e e2
        exact .inr ⟨p, vs, rfl, .inl (.inl g1), fun q hq => PostE.fresh h6 s6 (cut_is t o u) hq⟩
      · exact h6.elim
  | _ => rw [e1] at h5; exact h5.elim

/-! ### built-in functions -/
/-- a call of a built-in, by its rule -/
theorem DE.biB {C : Cfg} {A : E} {b : Bi} {x : Str} {p : Pos} {id : String} {r : List V → Hp → VK → Prop} (hr : CallR X (.builtin id) r) (hs : CallS c r (biM b)) (hg : Gl X x) (hm : X.mg x = none) (hv : bootBuiltins x = some (.builtin id))
    (ha : DA X c ek (a :: es) (ev C A)) (hn : x ≠ "__name__") (hdb : (x == ("__debug__" : Str)) = false) (he : starEach (a :: es) X.env = (false, eval a X.env) :: starEach es X.env) (hpl : (backTo pos (starEach es X.env)).any (·.1) = false) :
    DE X c ek (.Call (.Name x p) (a :: es) [] pos) (ev C (.bi b A)) := by
  obtain ⟨ta, pa, sa⟩ := ha
  refine ⟨tCB r ta, pe_callB hr hg hm hv pa hn hdb he hpl, fun σ F la H en st Q re rs h => ?_⟩
  refine sa.then_ re rs (PostG.bnd h) fun ds s1 vs F1 la1 H1 h1 x1 s2 q1 => ?_
  exact hs ds vs F1 la1 H1 s1 ek Q s2 q1 (PostE.later x1 h1)
theorem DE.biT {C : Cfg} {A : E} {b : Bi} {x : Str} {p : Pos} {id : String} {r : List V → Hp → VK → Prop} (hr : CallR X (.type id) r) (hs : CallS c r (biM b)) (hg : Gl X x) (hm : X.mg x = none) (hv : bootBuiltins x = some (.type id))
    (ha : DA X c ek (a :: es) (ev C A)) (hn : x ≠ "__name__") (hdb : (x == ("__debug__" : Str)) = false) (he : starEach (a :: es) X.env = (false, eval a X.env) :: starEach es X.env) (hpl : (backTo pos (starEach es X.env)).any (·.1) = false) :
    DE X c ek (.Call (.Name x p) (a :: es) [] pos) (ev C (.bi b A)) := by
  obtain ⟨ta, pa, sa⟩ := ha
  refine ⟨tCB r ta, pe_callTy hr hg hm hv pa hn hdb he hpl, fun σ F la H en st Q re rs h => ?_⟩
  refine sa.then_ re rs (PostG.bnd h) fun ds s1 vs F1 la1 H1 h1 x1 s2 q1 => ?_
  exact hs ds vs F1 la1 H1 s1 ek Q s2 q1 (PostE.later x1 h1)
theorem seq_sides (rs : StRel c F la H st) {v : V} {d : D} {ys : List D} (q : Fz c F la v d) (h : seqOf st d = some ys) : ∃ p vs, v = .ref p ∧ (SqL c.K H p vs ∨ SqT c.K H p vs) ∧ FzL c F la vs ys :=
  let ⟨p, vs, e, o, t⟩ := seqOf_is rs q h
  ⟨p, vs, e, o.symm, t⟩
theorem callS_len : CallS c (fun xs H Q => ∃ p ys, xs = [.ref p] ∧ (SqL c.K H p ys ∨ SqT c.K H p ys) ∧ Q (.int ys.length) H) (biM .len) := by
  intro xs vs F la H st ek Q rs q h
  match xs, q, h with
  | [], q, h => exact h.elim
  | [x], .cons q .nil, h =>
    have h : PostE c ek F la H Q (match seqOf st x with
      | some ys => .ok (.d (.int ys.length)) st
      | none => .bad) := h
    split at h
    · rename_i ys e
      obtain ⟨p, us, rfl, o, t⟩ := seq_sides rs q e
      exact ⟨p, us, rfl, o, PostE.now h rs (by rw [t.length]; exact .int _)⟩
    · exact h.elim
  | _ :: _ :: _, q, h => exact h.elim
theorem callS_tuple : CallS c (fun xs H Q => ∃ p ys, xs = [.ref p] ∧ ((SqL c.K H p ys ∧ ∀ l, H l = none → Q (.ref l) (upd H l (.tup ys))) ∨ (SqT c.K H p ys ∧ Q (.ref p) H))) (biM .tuple) := by
  intro xs vs F la H st ek Q rs q h
  match xs, q, h with
  | [], q, h => exact h.elim
  | [x], @FzL.cons _ _ _ v _ _ _ q .nil, h =>
    have lst : ∀ {ys : List D}, lstOf st x = some ys → PostE c ek F la H Q (.ok (.d (.tup ys)) st) → ∃ p zs, [v] = [V.ref p] ∧ ((SqL c.K H p zs ∧ ∀ l, H l = none → Q (.ref l) (upd H l (.tup zs))) ∨ (SqT c.K H p zs ∧ Q (.ref p) H)) := fun {ys} e h => by
      obtain ⟨p, us, rfl, o, t⟩ := lstOf_is rs q e
      exact ⟨p, us, rfl, .inl ⟨.inl (.inl o), fun l hl => PostE.tupled h rs t hl⟩⟩
    cases x with
    | tup ys =>
      cases q with
      | @tup p us _ e t => exact ⟨p, us, rfl, .inr ⟨sqT_mono rs.sub e, PostE.now h rs (.tup e t)⟩⟩
    | lst ys => exact lst rfl h
    | loc n =>
      have h : PostE c ek F la H Q (match lstOf st (.loc n) with
        | some ys => .ok (.d (.tup ys)) st
        | none => .bad) := h
      split at h
      · rename_i ys e
        exact lst e h
      · exact h.elim
    | _ => exact h.elim
  | _ :: _ :: _, q, h => exact h.elim
theorem callS_list : CallS c (fun xs H Q => ∃ p ys, xs = [.ref p] ∧ (SqL c.K H p ys ∨ SqT c.K H p ys) ∧ ∀ l, H l = none → Q (.ref l) (upd H l (.lst ys))) (biM .list) := by
  intro xs vs F la H st ek Q rs q h
  match xs, q, h with
  | [], q, h => exact h.elim
  | [x], .cons q .nil, h =>
    have h : PostE c ek F la H Q (match seqOf st x with
      | some ys => .ok (.fr ys) st
      | none => .bad) := h
    split at h
    · rename_i ys e
      obtain ⟨p, us, rfl, o, t⟩ := seq_sides rs q e
      exact ⟨p, us, rfl, o, fun l hl => PostE.fresh h rs t hl⟩
    · exact h.elim
  | _ :: _ :: _, q, h => exact h.elim
theorem callS_int : CallS c (fun xs H Q => (∃ i, xs = [.int i] ∧ Q (.int i) H) ∨ ∃ k, xs = [.bl k] ∧ Q (.int (if k then 1 else 0)) H) (biM .int) := by
  intro xs vs F la H st ek Q rs q h
  match xs, q, h with
  | [], q, h => exact h.elim
  | [x], .cons q .nil, h =>
    cases x with
    | int i => cases q; exact .inl ⟨i, rfl, PostE.now h rs (.int _)⟩
    | bl k => cases q; exact .inr ⟨k, rfl, PostE.now h rs (.int _)⟩
    | _ => exact h.elim
  | _ :: _ :: _, q, h => exact h.elim
theorem ints_is : ∀ {vs : List V} {ds : List D} {ns : List Int}, FzL c F la vs ds → intsOf ds = some ns → vs = ns.map V.int
  | _, _, _, .nil, e => by cases e; rfl
  | _, _, _, @FzL.cons _ _ _ v vs d ds r t, e => by
    cases d with
    | int i =>
      have e : (intsOf ds).map (i :: ·) = some _ := e
      rw [Option.map_eq_some_iff] at e
      obtain ⟨ms, e1, rfl⟩ := e
      cases r
      rw [ints_is t e1]; rfl
    | _ => cases e
theorem bls_is : ∀ {vs : List V} {ds : List D} {bs : List Bool}, FzL c F la vs ds → blsOf ds = some bs → vs = bs.map V.bl
  | _, _, _, .nil, e => by cases e; rfl
  | _, _, _, @FzL.cons _ _ _ v vs d ds r t, e => by
    cases d with
    | bl i =>
      have e : (blsOf ds).map (i :: ·) = some _ := e
      rw [Option.map_eq_some_iff] at e
      obtain ⟨ms, e1, rfl⟩ := e
      cases r
      rw [bls_is t e1]; rfl
    | _ => cases e
theorem lst_ints (rs : StRel c F la H st) {v : V} {d : D} {ns : List Int} (q : Fz c F la v d) (h : (lstOf st d).bind intsOf = some ns) : ∃ p, v = .ref p ∧ SqL c.K H p (ns.map V.int) := by
  rw [Option.bind_eq_some_iff] at h
  obtain ⟨ds, e1, e2⟩ := h
  obtain ⟨p, vs, rfl, o, t⟩ := lstOf_is rs q e1
  exact ⟨p, rfl, .inl (.inl (by rw [← ints_is t e2]; exact o))⟩
theorem lst_bls (rs : StRel c F la H st) {v : V} {d : D} {ns : List Bool} (q : Fz c F la v d) (h : (lstOf st d).bind blsOf = some ns) : ∃ p, v = .ref p ∧ SqL c.K H p (ns.map V.bl) := by
  rw [Option.bind_eq_some_iff] at h
  obtain ⟨ds, e1, e2⟩ := h
  obtain ⟨p, vs, rfl, o, t⟩ := lstOf_is rs q e1
  exact ⟨p, rfl, .inl (.inl (by rw [← bls_is t e2]; exact o))⟩
theorem seq_ints (rs : StRel c F la H st) {v : V} {d : D} {ns : List Int} (q : Fz c F la v d) (h : (seqOf st d).bind intsOf = some ns) : ∃ p, v = .ref p ∧ (SqT c.K H p (ns.map V.int) ∨ SqL c.K H p (ns.map V.int)) := by
  rw [Option.bind_eq_some_iff] at h
  obtain ⟨ds, e1, e2⟩ := h
  obtain ⟨p, vs, rfl, o, t⟩ := seqOf_is rs q e1
  exact ⟨p, rfl, by rw [← ints_is t e2]; exact o⟩
theorem callS_sum : CallS c (rSumA c.K) (biM .sum) := by
  intro xs vs F la H st ek Q rs q h
  match xs, q, h with
  | [], q, h => exact h.elim
  | [x], .cons q .nil, h =>
    have h : PostE c ek F la H Q (match (seqOf st x).bind intsOf with
      | some ns => .ok (.d (.int ns.sum)) st
      | none => .bad) := h
    split at h
    · rename_i ns e
      obtain ⟨p, rfl, o⟩ := seq_ints rs q e
      exact ⟨p, ns, rfl, o, PostE.now h rs (.int _)⟩
    · exact h.elim
  | _ :: _ :: _, q, h => exact h.elim
theorem callS_all : CallS c (rAll c.K) (biM .all) := by
  intro xs vs F la H st ek Q rs q h
  match xs, q, h with
  | [], q, h => exact h.elim
  | [x], .cons q .nil, h =>
    have h : PostE c ek F la H Q (match (lstOf st x).bind blsOf with
      | some bs => .ok (.d (.bl (bs.all id))) st
      | none => .bad) := h
    split at h
    · rename_i ns e
      obtain ⟨p, rfl, o⟩ := lst_bls rs q e
      exact ⟨p, ns, rfl, o, PostE.now h rs (.bl _)⟩
    · exact h.elim
  | _ :: _ :: _, q, h => exact h.elim
theorem callS_any : CallS c (rAny c.K) (biM .any) := by
  intro xs vs F la H st ek Q rs q h
  match xs, q, h with
  | [], q, h => exact h.elim
  | [x], .cons q .nil, h =>
    have h : PostE c ek F la H Q (match (lstOf st x).bind blsOf with
      | some bs => .ok (.d (.bl (bs.any id))) st
      | none => .bad) := h
    split at h
    · rename_i ns e
      obtain ⟨p, rfl, o⟩ := lst_bls rs q e
      exact ⟨p, ns, rfl, o, PostE.now h rs (.bl _)⟩
    · exact h.elim
  | _ :: _ :: _, q, h => exact h.elim
theorem callS_abs : CallS c (fun xs H Q => ∃ i, xs = [.int i] ∧ Q (.int (if i < 0 then -i else i)) H) (biM .abs) := by
  intro xs vs F la H st ek Q rs q h
  match xs, q, h with
  | [], q, h => exact h.elim
  | [x], .cons q .nil, h =>
    cases x with
    | int i => cases q; exact ⟨i, rfl, PostE.now h rs (.int _)⟩
    | _ => exact h.elim
  | _ :: _ :: _, q, h => exact h.elim
theorem maxI_spec : ∀ (xs : List Int) (m : Int), maxI m xs ∈ m :: xs ∧ ∀ y ∈ m :: xs, y ≤ maxI m xs
  | [], m => ⟨List.mem_singleton.mpr rfl, fun y h => by rw [List.mem_singleton.mp h]; exact Int.le_refl _⟩
  | x :: r, m => by
    unfold maxI
    by_cases h : x > m
    · rw [if_pos h]
      obtain ⟨h1, h2⟩ := maxI_spec r x
      refine ⟨List.mem_cons_of_mem _ h1, fun y hy => ?_⟩
      rcases List.mem_cons.mp hy with rfl | hy
      · exact Int.le_trans (Int.le_of_lt h) (h2 x List.mem_cons_self)
      · exact h2 y hy
    · rw [if_neg h]
      obtain ⟨h1, h2⟩ := maxI_spec r m
      refine ⟨?_, fun y hy => ?_⟩
      · rcases List.mem_cons.mp h1 with e | e
        · rw [e]; exact List.mem_cons_self
        · exact List.mem_cons_of_mem _ (List.mem_cons_of_mem _ e)
      · rcases List.mem_cons.mp hy with rfl | hy
        · exact h2 _ List.mem_cons_self
        · rcases List.mem_cons.mp hy with rfl | hy
          · exact Int.le_trans (Int.not_lt.mp h) (h2 m List.mem_cons_self)
          · exact h2 y (List.mem_cons_of_mem _ hy)
theorem minI_spec : ∀ (xs : List Int) (m : Int), minI m xs ∈ m :: xs ∧ ∀ y ∈ m :: xs, minI m xs ≤ y
  | [], m => ⟨List.mem_singleton.mpr rfl, fun y h => by rw [List.mem_singleton.mp h]; exact Int.le_refl _⟩
  | x :: r, m => by
    unfold minI
    by_cases h : x < m
    · rw [if_pos h]
      obtain ⟨h1, h2⟩ := minI_spec r x
      refine ⟨List.mem_cons_of_mem _ h1, fun y hy => ?_⟩
      rcases List.mem_cons.mp hy with rfl | hy
      · exact Int.le_trans (h2 x List.mem_cons_self) (Int.le_of_lt h)
      · exact h2 y hy
    · rw [if_neg h]
      obtain ⟨h1, h2⟩ := minI_spec r m
      refine ⟨?_, fun y hy => ?_⟩
      · rcases List.mem_cons.mp h1 with e | e
        · rw [e]; exact List.mem_cons_self
        · exact List.mem_cons_of_mem _ (List.mem_cons_of_mem _ e)
      · rcases List.mem_cons.mp hy with rfl | hy
        · exact h2 _ List.mem_cons_self
        · rcases List.mem_cons.mp hy with rfl | hy
          · exact Int.le_trans (h2 m List.mem_cons_self) (Int.not_lt.mp h)
          · exact h2 y (List.mem_cons_of_mem _ hy)
def rMaxA (K : PySem.W.Frag) : List V → Hp → VK → Prop := fun xs H Q => rMax K xs H Q ∨ ∃ i j, xs = [.int i, .int j] ∧ Q (.int (if j > i then j else i)) H
def rMinA (K : PySem.W.Frag) : List V → Hp → VK → Prop := fun xs H Q => rMin K xs H Q ∨ ∃ i j, xs = [.int i, .int j] ∧ Q (.int (if j < i then j else i)) H
theorem callS_max : CallS c (rMaxA c.K) (biM .max) := by
  intro xs vs F la H st ek Q rs q h
  match xs, q, h with
  | [], q, h => exact h.elim
  | [x], .cons q .nil, h =>
    have h : PostE c ek F la H Q (match (lstOf st x).bind intsOf with
      | some (n :: ns) => .ok (.d (.int (maxI n ns))) st
      | _ => .bad) := h
    split at h
    · rename_i n ns e
      obtain ⟨p, rfl, o⟩ := lst_ints rs q e
      refine .inl ⟨p, n :: ns, rfl, o, Nat.zero_lt_succ _, fun m h1 h2 => ?_⟩
      obtain ⟨g1, g2⟩ := maxI_spec ns n
      rw [Int.le_antisymm (g2 m h1) (h2 _ g1)]
      exact PostE.now h rs (.int _)
    · exact h.elim
  | [x, y], .cons q1 (.cons q2 .nil), h =>
    cases x with
    | int i =>
      cases y with
      | int j => cases q1; cases q2; exact .inr ⟨i, j, rfl, PostE.now h rs (.int _)⟩
      | _ => exact h.elim
    | _ => exact h.elim
  | x :: y :: _ :: _, q, h => exact h.elim
theorem callS_min : CallS c (rMinA c.K) (biM .min) := by
  intro xs vs F la H st ek Q rs q h
  match xs, q, h with
  | [], q, h => exact h.elim
  | [x], .cons q .nil, h =>
    have h : PostE c ek F la H Q (match (lstOf st x).bind intsOf with
      | some (n :: ns) => .ok (.d (.int (minI n ns))) st
      | _ => .bad) := h
    split at h
    · rename_i n ns e
      obtain ⟨p, rfl, o⟩ := lst_ints rs q e
      refine .inl ⟨p, n :: ns, rfl, o, Nat.zero_lt_succ _, fun m h1 h2 => ?_⟩
      obtain ⟨g1, g2⟩ := minI_spec ns n
      rw [Int.le_antisymm (h2 _ g1) (g2 m h1)]
      exact PostE.now h rs (.int _)
    · exact h.elim
  | [x, y], .cons q1 (.cons q2 .nil), h =>
    cases x with
    | int i =>
      cases y with
      | int j => cases q1; cases q2; exact .inr ⟨i, j, rfl, PostE.now h rs (.int _)⟩
      | _ => exact h.elim
    | _ => exact h.elim
  | x :: y :: _ :: _, q, h => exact h.elim
end
end PD

/-! repr, isinstance, methods of lists, cells, chains. -/
namespace PD
open PySem PySem.Spec PyProof.Rows L2

section
variable {X : Cx} {c : Cn} {ek : XK} {F F' H H' : Hp} {la la' : List Addr} {st : Store} {a b e : Expr} {es : List Expr} {ma mb mc : En → M R} {pos : Pos}

/-! ### repr -/
def rRepr (K : PySem.W.Frag) : List V → Hp → VK → Prop := fun xs H Q => ∃ x d, xs = [x] ∧ Dp K H x d ∧ d.showable = true ∧ d.shown.length ≤ sizeLine ∧ SeqAt.shaped d = true ∧ Q (.str d.shown) H
theorem nodict_of_shaped {d : PyData} (h : SeqAt.shaped d = true) : d.hasDict = false := PyData.hasDict_of_canLay d (SeqAt.canLay_of_shaped h)
theorem call_repr (hu : X.A.units + 100 < cLine) (hg : X.A.guards = some []) : CallR X (.builtin "repr") (rRepr X.K) := by
  intro pins s σ H xs us Q I r h
  obtain ⟨x, d, rfl, dp, h1, h2, h3, q⟩ := h
  obtain ⟨u, rfl, rx⟩ := Vals.one r
  have fin : ∀ (t : Tok) (tk : Nat), EP X pins σ Q (.str d.shown t) { s with toks := tk } := fun t tk => ⟨.str d.shown, H, I.tok tk, ⟨t, rfl⟩, q⟩
  obtain ⟨as, rd⟩ := Dp.reads I d x u dp rx
  have hd := SeqAt.depth_of_shaped h3
  cases dp with
  | non => cases rx; exact PySem.P.repr_of_none (fin _ _)
  | bl b => cases rx; exact PySem.P.repr_of_bool (fin _ _)
  | int i =>
    obtain ⟨t, rfl⟩ := rx
    exact PySem.P.repr_of_int (of_decide_eq_true h1) (fin _ _)
  | str z =>
    obtain ⟨t, rfl⟩ := rx
    exact PySem.P.repr_of_str (fin _ _) h2
  | lst hq ha =>
    cases rx
    refine repr_of_reads' rd h1 (PyData.noDict_hsm (nodict_of_shaped h3)) hg (by omega) (fun _ _ z => z) (fun h' t tk hk => ?_) h2
    exact ⟨.str _, H, I.kept hk, ⟨t, rfl⟩, q⟩
  | tup hq ha =>
    cases rx
    refine repr_of_reads' rd h1 (PyData.noDict_hsm (nodict_of_shaped h3)) hg (by omega) (fun _ _ z => z) (fun h' t tk hk => ?_) h2
    exact ⟨.str _, H, I.kept hk, ⟨t, rfl⟩, q⟩
theorem callS_repr : CallS c (rRepr c.K) (biM .repr) := by
  intro xs vs F la H st ek Q rs q h
  match xs, q, h with
  | [], q, h => exact h.elim
  | [x], .cons q .nil, h =>
    have h : PostE c ek F la H Q (match pyS st x with
      | some p => if p.showable && decide (p.shown.length ≤ 1000000) && SeqAt.shaped p then .ok (.d (.str p.shown)) st else .bad
      | none => .bad) := h
    split at h
    · rename_i p e
      split at h
      · rename_i hh
        rw [Bool.and_eq_true, Bool.and_eq_true] at hh
        have h2 : p.shown.length ≤ sizeLine := Nat.le_trans (of_decide_eq_true hh.1.2) (by decide)
        exact ⟨_, p, rfl, dpS_of rs q e, hh.1.1, h2, hh.2, PostE.now h rs (.str _)⟩
      · exact h.elim
    · exact h.elim
  | _ :: _ :: _, q, h => exact h.elim

/-! ### isinstance -/
theorem kit_pr (K : PySem.W.Frag) (x y : Pr) : PySem.W.kitOne K (.type x.nm) (.type y.nm) = some (prB x y) := by
  refine kit_ty ?_
  cases x <;> cases y <;> decide +kernel
theorem sqT_ty {K : PySem.W.Frag} {p : Addr} {vs : List V} (h : SqT K H p vs) : TyX K H (.ref p) (.type "tuple") := by
  rcases h with (h | ⟨o, h⟩) | ⟨o, its, n, h, hc, _⟩
  · exact .base (.tup h)
  · exact .fTuple h
  · exact .kTuple h hc
theorem ty_is (rs : StRel c F la H st) {v : V} {d : D} {p : Pr} (q : Fz c F la v d) (h : tyOf st d = some p) : TyX c.K H v (.type p.nm) := by
  cases q with
  | non => cases h; exact .base .non
  | bl b => cases h; exact .base (.bl b)
  | int i => cases h; exact .base (.int i)
  | str x => cases h; exact .base (.str x)
  | tup e t => cases h; exact sqT_ty (sqT_mono rs.sub e)
  | lst e t => cases h; exact .base (.lst (rs.sub _ _ e))
  | dct e l t => cases h; exact .base (.dK (rs.sub _ _ e))
  | scr _ _ => cases h
  | ins _ _ _ _ => cases h
  | @loc n p e =>
    have h : (match st[n]? with
      | some (.lst _) => some Pr.list
      | some (.dct _ _) => some Pr.dict
      | _ => none) = some _ := h
    split at h
    · rename_i ds e1
      cases h
      obtain ⟨vs, h1, t⟩ := rs.get e e1
      exact .base (.lst h1)
    · rename_i ks ds e1
      cases h
      obtain ⟨vs, h1, t⟩ := rs.get e e1
      exact .base (.dK h1)
    · cases h
/-- a class by its name -/
structure TyName (X : Cx) (e : Expr) (t : Ty) : Prop where
  is : ∃ n : Pr, t = .pr n ∧ PE X e (tC (.ty n.nm))
theorem DE.isi {C : Cfg} {A : E} {t : Ty} {p : Pos} (ft : Ft X c) (hg : Gl X "isinstance") (hm : X.mg "isinstance" = none) (ha : DE X c ek a (ev C A)) (ht : TyName X b t)
    (h1 : starEach [a, b] X.env = [(false, eval a X.env), (false, eval b X.env)]) (h2 : starEach [b] X.env = [(false, eval b X.env)]) : DE X c ek (.Call (.Name "isinstance" p) [a, b] [] pos) (ev C (.isi A t)) := by
  obtain ⟨ta, pa, sa⟩ := ha
  obtain ⟨n, rfl, pb⟩ := ht.is
  refine ⟨_, pe_callB call_isi hg hm (by decide +kernel) (pa_cons pa (pa_cons pb pa_nil (by rw [h2]; rfl)) (by rw [h1, h2])) (by decide) (by decide) (by rw [h1, h2]) (by rw [h2]; rfl), fun σ F la H en st Q re rs h => ?_⟩
  refine sa.then_ re rs (PostG.bnd h) fun r s1 v F1 la1 H1 h1 x1 s2 q1 => ?_
  have h1 : PostE c ek F la H Q (match isTy s1 r.val (.pr n) with
    | some b => .ok (.d (.bl b)) s1
    | none => .bad) := h1
  split at h1
  · rename_i k e1
    have e1 : (tyOf s1 r.val).map (fun a => prB a n) = some k := e1
    rw [Option.map_eq_some_iff] at e1
    obtain ⟨m, e2, rfl⟩ := e1
    exact ⟨v, .ty n.nm, .type m.nm, .type n.nm, _, rfl, .ty _, by rw [ft.K]; exact ty_is s2 q1 e2, kit_pr _ _ _, PostE.now (PostE.later x1 h1) s2 (.bl _)⟩
  · exact h1.elim

/-! ### chains -/
theorem cmpM_cases (k : COp) (x y : D) (s : Store) : (∃ b, cmpS k x y s = some b ∧ cmpM k x y s = .ok b s) ∨ cmpM k x y s = .bad := by
  unfold cmpM
  cases cmpS k x y s with
  | some b => exact .inl ⟨b, rfl, rfl⟩
  | none => exact .inr rfl
theorem bnd_at {α β : Type} {m : M α} {f : α → M β} {s s' : Store} {x : α} (h : m s = .ok x s') : bnd m f s = f x s' := by
  unfold bnd; rw [h]
theorem bnd_bad {α β : Type} {m : M α} {f : α → M β} {s : Store} (h : m s = .bad) : bnd m f s = .bad := by
  unfold bnd; rw [h]
theorem DE.chn {C : Cfg} {A B G : E} {g : Expr} {k k' : COp} {o o' : CmpOp} (ft : Ft X c) (hk : (k, o) ∈ cops) (hk' : (k', o') ∈ cops) (ha : DE X c ek a (ev C A)) (hb : DE X c ek b (ev C B)) (hc : DE X c ek g (ev C G))
    (hm : lastMarks [o, o'] [b, g] = false) : DE X c ek (.Compare a [o, o'] [b, g] pos) (ev C (.chn k k' A B G)) := by
  obtain ⟨r, h1, h2, _⟩ := cop_rule ft hk
  obtain ⟨r', h1', h2', _⟩ := cop_rule ft hk'
  obtain ⟨ta, pa, sa⟩ := ha
  obtain ⟨tb, pb, sb⟩ := hb
  obtain ⟨tc, pc, sc⟩ := hc
  refine ⟨tChain r r' ta tb tc, pe_chain h1 h1' pa pb pc hm, fun σ F la H en st Q re rs h => ?_⟩
  refine sa.then_ re rs (PostG.bnd h) fun r1 s1 v F1 la1 H1 g1 x1 s2 q1 => ?_
  refine sb.then_ (re.mono x1.mono) s2 (PostG.imp (PostG.bnd g1) (fun _ _ _ z => z) fun _ _ _ z => z.later x1) fun r2 s3 u F2 la2 H2 g2 x2 s4 q2 => ?_
  rcases cmpM_cases k r1.val r2.val s3 with ⟨kk, e1, e2⟩ | e2
  · rw [bnd_at e2] at g2
    refine h2 _ _ v u F2 la2 H2 s3 kk _ s4 (q1.mono x2.mono) q2 e1 ⟨kk, rfl, ?_⟩
    cases kk with
    | false =>
      rw [if_neg Bool.false_ne_true] at g2 ⊢
      exact PostE.now (PostE.later (x1.trans x2) g2) s4 (.bl _)
    | true =>
      rw [if_pos rfl] at g2 ⊢
      refine sc.then_ (re.mono (x1.trans x2).mono) s4 (PostG.imp (PostG.bnd g2) (fun _ _ _ z => z) fun _ _ _ z => z.later (x1.trans x2)) fun r3 s5 w F3 la3 H3 g5 x3 s6 q3 => ?_
      exact h2'.val _ _ u w F3 la3 H3 s5 Q s6 (q2.mono x3.mono) q3 (PostE.later (x1.trans (x2.trans x3)) g5)
  · rw [bnd_bad e2] at g2
    exact g2.elim
theorem DT.chn {C : Cfg} {A B G : E} {g : Expr} {k k' : COp} {o o' : CmpOp} (ft : Ft X c) (hk : (k, o) ∈ cops) (hk' : (k', o') ∈ cops) (ha : DE X c ek a (ev C A)) (hb : DE X c ek b (ev C B)) (hc : DE X c ek g (ev C G))
    (hm : lastMarks [o, o'] [b, g] = false) : DT X c ek (.Compare a [o, o'] [b, g] pos) (tev C (.chn k k' A B G)) := by
  obtain ⟨r, h1, h2, _⟩ := cop_rule ft hk
  obtain ⟨r', h1', h2', _⟩ := cop_rule ft hk'
  obtain ⟨ta, pa, sa⟩ := ha
  obtain ⟨tb, pb, sb⟩ := hb
  obtain ⟨tc, pc, sc⟩ := hc
  refine ⟨_, pt_chain h1 h1' pa pb pc hm, fun σ F la H en st Q re rs h => ?_⟩
  unfold tev at h
  rw [show ev C (.chn k k' A B G) en = (bnd (ev C A en) fun x => bnd (ev C B en) fun y => bnd (cmpM k x.val y.val) fun kk =>
    if kk then bnd (ev C G en) fun z => blM (cmpM k' y.val z.val) else rtn (.d (.bl false))) from rfl, bnd_assoc] at h
  refine sa.then_ re rs (PostG.bnd h) fun r1 s1 v F1 la1 H1 g1 x1 s2 q1 => ?_
  rw [bnd_assoc] at g1
  refine sb.then_ (re.mono x1.mono) s2 (PostG.imp (PostG.bnd g1) (fun _ _ _ z => z) fun _ _ _ z => z.later x1) fun r2 s3 u F2 la2 H2 g2 x2 s4 q2 => ?_
  rw [bnd_assoc] at g2
  rcases cmpM_cases k r1.val r2.val s3 with ⟨kk, e1, e2⟩ | e2
  · rw [bnd_at e2] at g2
    refine h2 _ _ v u F2 la2 H2 s3 kk _ s4 (q1.mono x2.mono) q2 e1 ⟨kk, rfl, ?_⟩
    cases kk with
    | false =>
      rw [if_neg Bool.false_ne_true] at g2 ⊢
      exact ⟨false, rfl, g2 F2 la2 H2 (x1.trans x2) s4⟩
    | true =>
      rw [if_pos rfl] at g2 ⊢
      rw [bnd_assoc] at g2
      refine sc.then_ (re.mono (x1.trans x2).mono) s4 (PostG.imp (PostG.bnd g2) (fun _ _ _ z => z) fun _ _ _ z => z.later (x1.trans x2)) fun r3 s5 w F3 la3 H3 g5 x3 s6 q3 => ?_
      rw [blM_tru] at g5
      rcases cmpM_cases k' r2.val r3.val s5 with ⟨b2, e3, e4⟩ | e4
      · rw [e4] at g5
        exact h2' _ _ u w F3 la3 H3 s5 b2 _ s6 (q2.mono x3.mono) q3 e3 ⟨b2, rfl, g5 F3 la3 H3 (x1.trans (x2.trans x3)) s6⟩
      · rw [e4] at g5
        exact g5.elim
  · rw [bnd_bad e2] at g2
    exact g2.elim

/-! ### cells -/
/-- a cell is changed -/
theorem cell_write {n : Nat} {p : Addr} {x : Cell} {o : HO} (rs : StRel c F la H st) (hl : la[n]? = some p) (hn : n < st.length) (new : CellIs c F la (upd H p o) p x) :
    Ext F la H F la (upd H p o) ∧ StRel c F la (upd H p o) (st.set n x) := by
  have hp : p ∈ la := List.mem_of_getElem? hl
  have hF := rs.free p hp
  refine ⟨⟨.refl, fun a u h z => ?_, fun a h => ?_, fun a u h => .inl h, fun a h => .inl h⟩, ⟨by rw [List.length_set]; exact rs.len, rs.nd, rs.free, fun a u h => ?_, fun m a y h1 h2 => ?_⟩⟩
  · rw [upd_ne (show a ≠ p from fun e => z (by rw [e]; exact hp))]; exact h
  · by_cases e : a = p
    · rw [e, upd_same]; exact fun z => nomatch z
    · rw [upd_ne e]; exact h
  · rw [upd_ne (show a ≠ p from fun e => by rw [e, hF] at h; cases h)]; exact rs.sub a u h
  · by_cases e : n = m
    · subst e
      rw [hl] at h1; cases h1
      rw [List.getElem?_set_self hn] at h2; cases h2
      exact new
    · rw [List.getElem?_set_ne e] at h2
      have ne : a ≠ p := fun z => by
        subst z
        obtain ⟨i1, g1⟩ := List.getElem?_eq_some_iff.mp h1
        obtain ⟨i2, g2⟩ := List.getElem?_eq_some_iff.mp hl
        exact e ((List.getElem_inj rs.nd).mp (g2.trans g1.symm))
      refine (rs.at_ m a y h1 h2).mono .refl fun u z => ?_
      rw [upd_ne ne]; exact z
/-- a loose new object becomes a cell -/
theorem cell_new {p : Addr} {x : Cell} (rs : StRel c F la H st) (hp : p ∉ la) (hF : F p = none) (new : CellIs c F la H p x) : StRel c F (la ++ [p]) H (st ++ [x]) ∧ Mono F la F (la ++ [p]) := by
  have m : Mono F la F (la ++ [p]) := ⟨fun _ _ h => h, fun n a h => by
    rw [List.getElem?_append_left (List.getElem?_eq_some_iff.mp h).1]; exact h⟩
  refine ⟨⟨by rw [List.length_append, List.length_append, rs.len]; rfl, ?_, fun a h => ?_, rs.sub, fun n a y h1 h2 => ?_⟩, m⟩
  · rw [List.nodup_append]
    exact ⟨rs.nd, List.nodup_cons.mpr ⟨List.not_mem_nil, List.nodup_nil⟩, fun a ha b hb z => hp (by rw [← List.mem_singleton.mp hb, ← z]; exact ha)⟩
  · rcases List.mem_append.mp h with h | h
    · exact rs.free a h
    · rw [List.mem_singleton.mp h]; exact hF
  · by_cases hn : n < la.length
    · rw [List.getElem?_append_left hn] at h1
      rw [List.getElem?_append_left (by rw [← rs.len]; exact hn)] at h2
      exact (rs.at_ n a y h1 h2).mono m fun _ z => z
    · have h3 := (List.getElem?_eq_some_iff.mp h1).1
      rw [List.length_append, List.length_singleton] at h3
      have e : n = la.length := by omega
      subst e
      rw [List.getElem?_append_right (Nat.le_refl _), Nat.sub_self] at h1
      rw [rs.len, List.getElem?_append_right (Nat.le_refl _), Nat.sub_self] at h2
      cases h1; cases h2
      exact new.mono m fun _ z => z
theorem DE.newl {C : Cfg} {A : E} (ha : DE X c ek a (ev C A)) : DE X c ek a (ev C (.newl A)) := by
  obtain ⟨ta, pa, sa⟩ := ha
  refine ⟨ta, pa, fun σ F la H en st Q re rs h => ?_⟩
  refine sa σ F la H en st Q re rs (PostG.imp (PostG.bnd h) (fun r s1 _ q v F1 la1 H1 x1 s2 rr => ?_) fun _ _ _ z => z)
  cases r with
  | d d => exact q.elim
  | it _ _ => exact q.elim
  | fr xs =>
    obtain ⟨p, vs, rfl, h1, h2, h3, h4, t⟩ := rr
    obtain ⟨s3, m⟩ := cell_new (x := .lst xs) s2 h4 h3 ⟨vs, h1, t⟩
    refine q (.ref p) F1 (la1 ++ [p]) H1 ⟨x1.mono.trans m, x1.keep, x1.stay, x1.newF, fun b hb => ?_⟩ s3 (.loc (by rw [← s2.len, List.getElem?_append_right (Nat.le_refl _), Nat.sub_self]; rfl))
    rcases List.mem_append.mp hb with hb | hb
    · exact x1.newL b hb
    · rw [List.mem_singleton.mp hb]; exact .inr h2

/-! ### methods of lists -/
theorem list_ty (rs : StRel c F la H st) {v : V} {d : D} {xs : List D} (q : Fz c F la v d) (h : lstOf st d = some xs) : tyV c.K "list" v H := by
  obtain ⟨p, vs, rfl, h1, t⟩ := lstOf_is rs q h
  exact .inl ⟨rfl, vs, .inl (.inl h1)⟩
/-- a method by values -/
def MthS (c : Cn) (r : V → List V → Hp → VK → Prop) (g : D → List D → M R) : Prop :=
  ∀ (x : D) (v : V) (xs : List D) (vs : List V) (F : Hp) (la : List Addr) (H : Hp) (st : Store) (ek : XK) (Q : V → Hp → Prop), StRel c F la H st → Fz c F la v x → FzL c F la vs xs → PostE c ek F la H Q (g x xs st) → r v vs H Q
theorem DE.mth {C : Cfg} {A B : E} {m : Mt} {name : Str} {id : String} {r : V → List V → Hp → VK → Prop} {apos : Pos} (ft : Ft X c) (pat : PlainAttrs "list") (slot : Slot "list" name id) (hty : typeOf (.builtin id) = pure (.type "method_descriptor"))
    (hm : MtR X id r) (hs : MthS c r (mthM m)) (ho : DE X c ek a (ev C A)) (ha : DA X c ek (e :: es) (ev C B)) (hbase : attributeBase a name X.env (eval a X.env) = eval a X.env)
    (hfew : ((backTo pos (starEach (e :: es) X.env)).all (fun x => !x.1) && (backToKw pos (keywordEach [] X.env)).all (fun x => x.1.isSome)
      && decide ((e :: es).length + ([] : List Keyword).length + (if ([] : List Keyword).isEmpty then 0 else 1) < 30)) = true)
    (hline : (apos.endLine == pos.line) = true) (hst : starEach (e :: es) X.env = (false, eval e X.env) :: starEach es X.env) (hplain : (backTo pos (starEach es X.env)).any (·.1) = false) :
    DE X c ek (.Call (.Attribute a name apos) (e :: es) [] pos) (ev C (.mth m A B)) := by
  obtain ⟨ta, pa, sa⟩ := ho
  obtain ⟨tb, pb, sb⟩ := ha
  refine ⟨_, pe_bm pat slot hty hm pa pb hbase hfew hline hst hplain, fun σ F la H en st Q re rs h => ?_⟩
  refine sa.then_ re rs (PostG.bnd h) fun r1 s1 v F1 la1 H1 h1 x1 s2 q1 => ?_
  have h1 : PostE c ek F la H Q (match lstOf s1 r1.val with
    | some _ => bnd (ev C B en) (fun y => mthM m r1.val y.val.items) s1
    | none => .bad) := h1
  split at h1
  · rename_i ys e1
    refine ⟨by rw [ft.K]; exact list_ty s2 q1 e1, ?_⟩
    refine sb.then_ (re.mono x1.mono) s2 (PostG.imp (PostG.bnd h1) (fun _ _ _ z => z) fun _ _ _ z => z.later x1) fun ds s3 vs F2 la2 H2 h2 x2 s4 q2 => ?_
    exact hs _ v ds vs F2 la2 H2 s3 ek Q s4 (q1.mono x2.mono) q2 (PostE.later (x1.trans x2) h2)
  · exact h1.elim
theorem DE.mth0 {C : Cfg} {A : E} {m : Mt} {name : Str} {id : String} {r : V → List V → Hp → VK → Prop} {apos : Pos} (ft : Ft X c) (pat : PlainAttrs "list") (slot : Slot "list" name id) (hty : typeOf (.builtin id) = pure (.type "method_descriptor"))
    (hm : MtR X id r) (hs : MthS c r (mthM m)) (ho : DE X c ek a (ev C A)) (hbase : attributeBase a name X.env (eval a X.env) = eval a X.env)
    (hline : (apos.endLine == pos.line) = true) :
    DE X c ek (.Call (.Attribute a name apos) [] [] pos) (ev C (.mth m A .nil)) := by
  obtain ⟨ta, pa, sa⟩ := ho
  refine ⟨_, pe_bm0 pat slot hty hm pa hbase hline, fun σ F la H en st Q re rs h => ?_⟩
  refine sa.then_ re rs (PostG.bnd h) fun r1 s1 v F1 la1 H1 h1 x1 s2 q1 => ?_
  have h1 : PostE c ek F la H Q (match lstOf s1 r1.val with
    | some _ => bnd (ev C .nil en) (fun y => mthM m r1.val y.val.items) s1
    | none => .bad) := h1
  split at h1
  · rename_i ys e1
    exact ⟨by rw [ft.K]; exact list_ty s2 q1 e1, hs _ v [] [] F1 la1 H1 s1 ek Q s2 q1 .nil (PostE.later x1 h1)⟩
  · exact h1.elim
theorem PostE.wrote {Q : V → Hp → Prop} {n : Nat} {p : Addr} {x : Cell} {o : HO} {d : D} {v : V} (h : PostE c ek F la H Q (.ok (.d d) (st.set n x))) (rs : StRel c F la H st) (hl : la[n]? = some p) (hn : n < st.length)
    (new : CellIs c F la (upd H p o) p x) (q : Fz c F la v d) : Q v (upd H p o) :=
  let ⟨x1, s1⟩ := cell_write rs hl hn new
  h v F la _ x1 s1 q
theorem st_lt {n : Nat} {x : Cell} (h : st[n]? = some x) : n < st.length := (List.getElem?_eq_some_iff.mp h).1
theorem mthS_append : MthS c rAppend (mthM .append) := by
  intro x v xs vs F la H st ek Q rs q t h
  cases x with
  | loc n =>
    match xs, t, h with
    | [], _, h => exact h.elim
    | [y], .cons q1 .nil, h =>
      cases q with
      | @loc _ p e =>
        have h : PostE c ek F la H Q (match st[n]? with
          | some (.lst ys) => if lim ys.length then .ok (.d .non) (st.set n (.lst (ys ++ [y]))) else .bad
          | _ => .bad) := h
        split at h
        · rename_i ds e2
          obtain ⟨us, h1, t2⟩ := rs.get e e2
          split at h
          · rename_i hl
            exact ⟨p, us, _, rfl, rfl, h1, by rw [t2.length]; exact lim_lt hl, PostE.wrote h rs e (st_lt e2) ⟨_, upd_same, t2.append (.one q1)⟩ .non⟩
          · exact h.elim
        · exact h.elim
    | _ :: _ :: _, _, h => exact h.elim
  | _ => exact h.elim
theorem mthS_extend : MthS c rExtend (mthM .extend) := by
  intro x v xs vs F la H st ek Q rs q t h
  cases x with
  | loc n =>
    match xs, t, h with
    | [], _, h => exact h.elim
    | [y], .cons q1 .nil, h =>
      cases q with
      | @loc _ p e =>
        have h : PostE c ek F la H Q (match st[n]?, lstOf st y with
          | some (.lst ys), some zs => if lim (ys.length + zs.length) then .ok (.d .non) (st.set n (.lst (ys ++ zs))) else .bad
          | _, _ => .bad) := h
        split at h
        · rename_i ds zs e2 e3
          obtain ⟨us, h1, t2⟩ := rs.get e e2
          obtain ⟨p3, v3, rfl, h3, t3⟩ := lstOf_is rs q1 e3
          split at h
          · rename_i hl
            exact ⟨p, p3, us, v3, rfl, rfl, h1, h3, by rw [t2.length, t3.length]; exact lim_le hl, PostE.wrote h rs e (st_lt e2) ⟨_, upd_same, t2.append t3⟩ .non⟩
          · exact h.elim
        · exact h.elim
    | _ :: _ :: _, _, h => exact h.elim
  | _ => exact h.elim
theorem mthS_pop : MthS c rPop (mthM .pop) := by
  intro x v xs vs F la H st ek Q rs q t h
  cases x with
  | loc n =>
    match xs, t, h with
    | [], .nil, h =>
      cases q with
      | @loc _ p e =>
        have h : PostE c ek F la H Q (match st[n]? with
          | some (.lst ys) => match ys.getLast? with
            | some y => .ok (.d y) (st.set n (.lst ys.dropLast))
            | none => .bad
          | _ => .bad) := h
        split at h
        · rename_i ds e2
          split at h
          · rename_i y e3
            obtain ⟨us, h1, t2⟩ := rs.get e e2
            obtain ⟨w, h3, h4⟩ := t2.last e3
            exact ⟨p, us, w, rfl, rfl, h1, h3, PostE.wrote h rs e (st_lt e2) ⟨_, upd_same, t2.dropLast⟩ h4⟩
          · exact h.elim
        · exact h.elim
    | _ :: _, _, h => exact h.elim
  | _ => exact h.elim
end
end PD

/-! Calls, what loops walk, comprehensions. -/
namespace PD
open PySem PySem.Spec PyProof.Rows L2

/-! ### calls -/
/-- a def's promise: what m does of the arguments -/
def spG (c : Cn) (m : List D → M D) : Sp := fun vs H Q E => ∃ F la st ds, FzL c F la vs ds ∧ StRel c F la H st ∧
  PostG (m ds st) (fun d st' => ∀ v F' la' H', Ext F la H F' la' H' → StRel c F' la' H' st' → Fz c F' la' v d → Q v H') (PostX c E F la H)
/-- a def at f keeps it, called where nothing is being shown -/
structure FnG (P : Program) (w : World) (K : PySem.W.Frag) (mg : Str → Option Value) (base : Heap) (k : Nat) (f : Addr) (fd : FuncData) (ps : List Str) (sp : Sp) : Prop where
  len : ∀ vs H Q E, sp vs H Q E → vs.length = ps.length
  run : ∀ (A : Around) (outer : List Env) (s : Shared) (H : Hp) (args : Args) (us : List Value) (vs : List V) (Q : VK) (E : XK), Room k A → A.guards = some [] → Env0 P w K mg base A outer s H →
    BindsTo s fd args (ps.zip us) → Vals vs us → sp vs H Q E → codeAny (model P w) A (.call (.ref f) args) (CR (L2.CX P w) outer P w H s Q E) s
section
variable {X : Cx} {c : Cn} {ek : XK} {F F' H H' : Hp} {la la' : List Addr} {st : Store} {a b e : Expr} {es : List Expr} {ma mb mc : En → M R} {pos : Pos}
variable {k : Nat} {f : Addr} {fd : FuncData} {ps : List Str} {sp : Sp} {x : Str} {p : Pos}
theorem FnG.go (G : FnG X.prog X.w X.K X.mg X.base k f fd ps sp) (hr : Room k X.A) (hg : X.A.guards = some []) (hx : Passes (L2.CX X.prog X.w) X ek) {pins : List (Addr × Obj)} {σ : L2.St} {s : Shared} {Q : VK} {us : List Value} {vs : List V} {kw : List (Str × Value)} {zs : List Value}
    (I : Inv X pins σ H s) (hb : BindsTo s fd ⟨us, kw⟩ (ps.zip zs)) (r : Vals vs zs) (h : sp vs H Q ek) : wpAny (model X.prog X.w) X.A (call (.ref f) us kw) (EP X pins σ Q) X.xe s := by
  have go := G.run X.A X.stack s H ⟨us, kw⟩ zs vs Q ek hr hg I.env0 hb r h
  refine wpAny_call (codeAny_mono go fun res s' hq => ?_)
  match res, hq with
  | .error e, hq => exact hx pins σ H s e s' I hq
  | .ok (.ret u), hq => exact I.after hq
  | .ok .next, hq => exact False.elim hq
  | .ok .brk, hq => exact False.elim hq
  | .ok .cont, hq => exact False.elim hq
def tGo (sp : Sp) (ek : XK) (t : TA) : TE := fun σ H Q => t σ H fun vs H1 => sp vs H1 Q ek
theorem pe_go {t : TA} (G : FnG X.prog X.w X.K X.mg X.base k f fd ps sp) (hr : Room k X.A) (hgd : X.A.guards = some []) (hx : Passes (L2.CX X.prog X.w) X ek) (hg : Gl X x) (hm : X.mg x = some (.ref f)) (hk : PySem.W.keepIn X.K (.ref f) = true)
    (hb : ∀ (s : Shared) (us : List Value), X.K.In s.heap → us.length = ps.length → BindsTo s fd ⟨us, []⟩ (ps.zip us)) (ha : PA X (e :: es) t) (hdb : (x == ("__debug__" : Str)) = false)
    (he : starEach (e :: es) X.env = (false, eval e X.env) :: starEach es X.env) (hpl : (backTo pos (starEach es X.env)).any (·.1) = false) : PE X (.Call (.Name x p) (e :: es) [] pos) (tGo sp ek t) := by
  refine ⟨fun pins s σ H Q I h => wpAny_Call_Name_kw (ld_glob I hg hm ?_ hdb)⟩
  refine PySem.W.callWith_K (h₀ := X.base) I.ok.mod.kin hk (thn (ha.run pos pins s σ H _ I h) fun us s1 ⟨vs, H1, I1, r, q⟩ => ⟨I1.kIn, ?_⟩) he hpl
  exact G.go hr hgd hx I1 (hb s1 us I1.kIn (by rw [← r.length]; exact G.len _ _ _ _ q)) r q
theorem DE.call {C : Cfg} {A : E} {i : Nat} (G : FnG X.prog X.w X.K X.mg X.base k f fd ps (spG c (C.call i))) (hr : Room k X.A) (ft : Ft X c) (hx : Passes (L2.CX X.prog X.w) X ek) (hg : Gl X x) (hm : X.mg x = some (.ref f)) (hk : PySem.W.keepIn X.K (.ref f) = true)
    (hb : ∀ (s : Shared) (us : List Value), X.K.In s.heap → us.length = ps.length → BindsTo s fd ⟨us, []⟩ (ps.zip us)) (ha : DA X c ek (e :: es) (ev C A)) (hdb : (x == ("__debug__" : Str)) = false)
    (he : starEach (e :: es) X.env = (false, eval e X.env) :: starEach es X.env) (hpl : (backTo pos (starEach es X.env)).any (·.1) = false) : DE X c ek (.Call (.Name x p) (e :: es) [] pos) (ev C (.call i A)) := by
  obtain ⟨ta, pa, sa⟩ := ha
  refine ⟨_, pe_go G hr ft.grd hx hg hm hk hb pa hdb he hpl, fun σ F la H en st Q re rs h => ?_⟩
  refine sa.then_ re rs (PostG.bnd h) fun ds s1 vs F1 la1 H1 h1 x1 s2 q1 => ?_
  refine ⟨F1, la1, s1, ds, q1, s2, PostG.imp (PostG.bnd h1) (fun d s3 _ z v F2 la2 H2 x2 s4 q2 => ?_) fun _ _ _ z => z.later x1⟩
  exact z v F2 la2 H2 (x1.trans x2) s4 q2
/-! ### what a loop walks -/
/-- the items of an iterator, while the fixed things stand; w: the cells that must be as in st -/
structure ItD (c : Cn) (F : Hp) (la : List Addr) (st : Store) (J : It) (xs : List D) (w : List Nat) : Prop where
  go : ∀ (i : Nat) (F' : Hp) (la' : List Addr) (H' : Hp) (st' : Store), i < xs.length → Mono F la F' la' → StRel c F' la' H' st' → watchOk w st st' = true → J.go i H'
  stop : ∀ (F' : Hp) (la' : List Addr) (H' : Hp) (st' : Store), Mono F la F' la' → StRel c F' la' H' st' → watchOk w st st' = true → J.stop xs.length H'
  yld : ∀ (i : Nat) (F' : Hp) (la' : List Addr) (H' : Hp) (st' : Store) (v : V) (H2 : Hp) (d : D), xs[i]? = some d → Mono F la F' la' → StRel c F' la' H' st' → watchOk w st st' = true → J.yld i H' v H2 →
    ∃ F2, Ext F' la' H' F2 la' H2 ∧ StRel c F2 la' H2 st' ∧ Fz c F2 la' v d
def DI (X : Cx) (c : Cn) (ek : XK) (tg : Expr) (e : Expr) (m : En → M R) : Prop :=
  ∃ t, PI X tg e t ∧ ∀ (σ : L2.St) (F : Hp) (la : List Addr) (H : Hp) (en : En) (st : Store) (Q : It → Hp → Prop), EnRel c F la σ en → StRel c F la H st →
    PostG (m en st) (fun r st' => ∀ xs w J F' la' H', r = .it xs w → Ext F la H F' la' H' → StRel c F' la' H' st' → ItD c F' la' st' J xs w → Q J H') (PostX c ek F la H) → t σ H Q
theorem watch_get {w : List Nat} {n : Nat} {x : Cell} {st st' : Store} (h : watchOk w st st' = true) (hn : n ∈ w) (e : st[n]? = some x) : st'[n]? = some x := by
  unfold watchOk at h
  have h1 := List.all_eq_true.mp h n hn
  rw [e] at h1
  cases e2 : st'[n]? with
  | none => rw [e2] at h1; cases h1
  | some y =>
    rw [e2] at h1
    rw [Cell.of_beq h1]
/-- a sequence that is fixed or watched is there later -/
theorem seq_later {w : List Nat} {p : Addr} {d : D} {xs : List D} (q : Fz c F la (.ref p) d) (h : seqOf st d = some xs) (hw : ∀ n ∈ locsOf d, n ∈ w) {F' : Hp} {la' : List Addr} {H' : Hp} {st' : Store}
    (m : Mono F la F' la') (rs : StRel c F' la' H' st') (hk : watchOk w st st' = true) : seqOf st' d = some xs ∧ Fz c F' la' (.ref p) d := by
  refine ⟨?_, q.mono m⟩
  cases d with
  | loc n =>
    have g := watch_get hk (hw n (List.mem_singleton.mpr rfl)) (loc_lst h)
    show (match st'[n]? with
      | some (.lst xs) => some xs
      | _ => none) = some xs
    rw [g]
  | _ => exact h
theorem itD_list {p : Addr} {xs : List D} {w : List Nat} (L : ∀ (F' : Hp) (la' : List Addr) (H' : Hp) (st' : Store), Mono F la F' la' → StRel c F' la' H' st' → watchOk w st st' = true → ∃ vs, SqL c.K H' p vs ∧ FzL c F' la' vs xs) :
    ItD c F la st (Itl c.K p) xs w where
  go := fun i F' la' H' st' hi m rs hk => by
    obtain ⟨vs, h1, t⟩ := L F' la' H' st' m rs hk
    obtain ⟨v, h2, _⟩ := t.get (List.getElem?_eq_getElem hi)
    exact ⟨vs, v, h1, h2⟩
  stop := fun F' la' H' st' m rs hk => by
    obtain ⟨vs, h1, t⟩ := L F' la' H' st' m rs hk
    exact ⟨vs, h1, Nat.le_of_eq t.length⟩
  yld := fun i F' la' H' st' v H2 d e m rs hk y => by
    obtain ⟨vs, h1, t⟩ := L F' la' H' st' m rs hk
    obtain ⟨rfl, y⟩ := y
    obtain ⟨v', h2, q⟩ := t.get e
    have e2 := (y vs h1).symm.trans h2
    cases e2
    exact ⟨F', .refl, rs, q⟩
theorem itD_tup {p : Addr} {xs : List D} {w : List Nat} (L : ∀ (F' : Hp) (la' : List Addr) (H' : Hp) (st' : Store), Mono F la F' la' → StRel c F' la' H' st' → watchOk w st st' = true → ∃ vs, SqT c.K H' p vs ∧ FzL c F' la' vs xs) :
    ItD c F la st (Itt c.K p) xs w where
  go := fun i F' la' H' st' hi m rs hk => by
    obtain ⟨vs, h1, t⟩ := L F' la' H' st' m rs hk
    obtain ⟨v, h2, _⟩ := t.get (List.getElem?_eq_getElem hi)
    exact ⟨vs, v, h1, h2⟩
  stop := fun F' la' H' st' m rs hk => by
    obtain ⟨vs, h1, t⟩ := L F' la' H' st' m rs hk
    exact ⟨vs, h1, Nat.le_of_eq t.length⟩
  yld := fun i F' la' H' st' v H2 d e m rs hk y => by
    obtain ⟨vs, h1, t⟩ := L F' la' H' st' m rs hk
    obtain ⟨rfl, y⟩ := y
    obtain ⟨v', h2, q⟩ := t.get e
    have e2 := (y vs h1).symm.trans h2
    cases e2
    exact ⟨F', .refl, rs, q⟩
theorem rngL_len : ∀ (n : Nat) (lo : Int), (rngL lo n).length = n
  | 0, _ => rfl
  | n + 1, lo => by rw [rngL, List.length_cons, rngL_len n]
theorem rngL_get : ∀ (n : Nat) (lo : Int) (i : Nat) (d : D), (rngL lo n)[i]? = some d → d = .int (lo + i)
  | 0, _, _, _, e => by simp [rngL] at e
  | n + 1, lo, 0, d, e => by
    have e : some (D.int lo) = some d := e
    cases e; simp
  | n + 1, lo, i + 1, d, e => by
    have e : (rngL (lo + 1) n)[i]? = some d := e
    rw [rngL_get n (lo + 1) i d e, show lo + 1 + (i : Int) = lo + ((i + 1 : Nat) : Int) by omega]
theorem itD_rng (lo : Int) (n : Nat) : ItD c F la st (Itr lo n) (rngL lo n) [] where
  go := fun i _ _ _ _ hi _ _ _ => by rw [rngL_len] at hi; exact hi
  stop := fun _ _ _ _ _ _ _ => by
    show n ≤ (rngL lo n).length
    rw [rngL_len]; exact Nat.le_refl _
  yld := fun i F' la' H' st' v H2 d e m rs hk y => by
    obtain ⟨rfl, rfl⟩ := y
    rw [rngL_get n lo i d e]
    exact ⟨F', .refl, rs, .int _⟩
/-- a list or a tuple, walked -/
def iSeq (K : PySem.W.Frag) (tl : TE) : TI := fun σ H R => tl σ H fun x H1 => ∃ a, x = .ref a ∧ (((∃ xs, SqL K H1 a xs) ∧ R (Itl K a) H1) ∨ ((∃ xs, SqT K H1 a xs) ∧ R (Itt K a) H1))
theorem pi_seq {tg l : Expr} {tl : TE} (hl : PE X l tl) : PI X tg l (iSeq X.K tl) := by
  refine ⟨fun pins s σ H R I h => thn (hl.run pins s σ H _ I h) fun v s1 ⟨x, H1, I1, r1, p, e, o⟩ => ?_⟩
  subst e
  cases r1
  have fp : ∀ b ∈ [s1.heap.objs.size], FpOk X pins H1 b := fun b hb => by
    rw [List.mem_singleton.mp hb]
    exact I1.fpOk (Nat.le_refl _) (I1.hok.fresh (Nat.le_refl _))
  rcases o with ⟨⟨xs, hq⟩, q⟩ | ⟨⟨xs, hq⟩, q⟩
  · obtain ⟨its, rv, pl, hz⟩ := I1.list hq
    exact wpAny_pyIter_list pl.isList ⟨s1.heap.objs.size, [s1.heap.objs.size], _, _, H1, rfl, I1.kept (t' := s1.toks) fun b o e => Heap.get?_push_of_some _ e, turn_list p _, ⟨_, Heap.get?_push_size _ rfl, rfl, rfl⟩, fp, q⟩
  · obtain ⟨its, rv, pl, hz⟩ := I1.tuple hq
    exact wpAny_pyIter_tuple (show s1.heap.IsTuple p its.toArray from pl) ⟨s1.heap.objs.size, [s1.heap.objs.size], _, _, H1, rfl, I1.kept (t' := s1.toks) fun b o e => Heap.get?_push_of_some _ e, turn_tuple p _, ⟨_, Heap.get?_push_size _ rfl, rfl, rfl⟩, fp, q⟩
theorem DI.seq {C : Cfg} {A : E} {tg : Expr} (ft : Ft X c) (ha : DE X c ek a (ev C A)) : DI X c ek tg a (ev C (.itv A)) := by
  obtain ⟨ta, pa, sa⟩ := ha
  refine ⟨_, pi_seq pa, fun σ F la H en st Q re rs h => ?_⟩
  rw [ft.K]
  refine sa.then_ re rs (PostG.bnd h) fun r s1 v F1 la1 H1 h1 x1 s2 q1 => ?_
  unfold itvM at h1
  cases e1 : seqOf s1 r.val with
  | none => rw [e1] at h1; exact h1.elim
  | some xs =>
    rw [e1] at h1
    have hlm : lim xs.length = true := by
      cases hh : lim xs.length with
      | true => rfl
      | false =>
        have h1 : PostG (if lim xs.length = true then Out.ok (R.it xs (locsOf r.val)) s1 else .bad) _ _ := h1
        rw [hh] at h1; exact h1.elim
    have h1 : PostG (if lim xs.length = true then Out.ok (R.it xs (locsOf r.val)) s1 else .bad) _ _ := h1
    rw [if_pos hlm] at h1
    obtain ⟨p, vs, rfl, o, t⟩ := seqOf_is s2 q1 e1
    refine ⟨p, rfl, ?_⟩
    have L := fun F' la' H' st' (m : Mono F1 la1 F' la') (rs' : StRel c F' la' H' st') hk => seq_later (w := locsOf r.val) q1 e1 (fun _ h => h) m rs' hk
    cases e2 : r.val with
    | tup ds =>
      refine .inr ⟨?_, h1 xs _ (Itt c.K p) F1 la1 H1 rfl x1 s2 (itD_tup fun F' la' H' st' m rs' hk => ?_)⟩
      · rw [e2] at q1
        cases q1 with
        | tup e t => exact ⟨_, sqT_mono s2.sub e⟩
      · obtain ⟨g1, g2⟩ := L F' la' H' st' m rs' hk
        rw [e2] at g1 g2
        cases g1
        cases g2 with
        | tup e t => exact ⟨_, sqT_mono rs'.sub e, t⟩
    | lst ds =>
      refine .inl ⟨?_, h1 xs _ (Itl c.K p) F1 la1 H1 rfl x1 s2 (itD_list fun F' la' H' st' m rs' hk => ?_)⟩
      · rw [e2] at q1
        cases q1 with
        | lst e t => exact ⟨_, .inl (.inl (s2.sub _ _ e))⟩
      · obtain ⟨g1, g2⟩ := L F' la' H' st' m rs' hk
        rw [e2] at g1 g2
        cases g1
        cases g2 with
        | lst e t => exact ⟨_, .inl (.inl (rs'.sub _ _ e)), t⟩
    | scr ds =>
      refine .inl ⟨?_, h1 xs _ (Itl c.K p) F1 la1 H1 rfl x1 s2 (itD_list fun F' la' H' st' m rs' hk => ?_)⟩
      · rw [e2] at q1
        cases q1 with
        | scr e t => exact ⟨_, sqL_mono s2.sub e⟩
      · obtain ⟨g1, g2⟩ := L F' la' H' st' m rs' hk
        rw [e2] at g1 g2
        cases g1
        cases g2 with
        | scr e t => exact ⟨_, sqL_mono rs'.sub e, t⟩
    | loc n =>
      refine .inl ⟨?_, h1 xs _ (Itl c.K p) F1 la1 H1 rfl x1 s2 (itD_list fun F' la' H' st' m rs' hk => ?_)⟩
      · rw [e2] at q1 e1
        cases q1 with
        | loc e =>
          obtain ⟨vs', h1', t'⟩ := s2.get e (loc_lst e1)
          exact ⟨_, .inl (.inl h1')⟩
      · obtain ⟨g1, g2⟩ := L F' la' H' st' m rs' hk
        rw [e2] at g1 g2
        cases g2 with
        | loc e =>
          obtain ⟨vs', h1', t'⟩ := rs'.get e (loc_lst g1)
          exact ⟨_, .inl (.inl h1'), t'⟩
    | _ => rw [e2] at e1; cases e1
theorem smallI_is {i : Int} (h : smallI i = true) : -(2 ^ 62) ≤ i ∧ i < 2 ^ 62 := by
  unfold smallI at h
  rw [Bool.and_eq_true] at h
  have h1 := of_decide_eq_true h.1
  have h2 := of_decide_eq_true h.2
  omega
theorem DI.rng1 {C : Cfg} {A : E} {tg : Expr} {p : Pos} (hg : Gl X "range") (hm : X.mg "range" = none) (ha : DA X c ek [a] (ev C A)) (hn : ∀ en st r s', ev C A en st = .ok r s' → r.val.items.length = 1) (hs : starEach [a] X.env = [(false, eval a X.env)]) :
    DI X c ek tg (.Call (.Name "range" p) [a] [] pos) (ev C (.rng A)) := by
  obtain ⟨ta, pa, sa⟩ := ha
  refine ⟨_, pi_range1 hg hm pa hs, fun σ F la H en st Q re rs h => ?_⟩
  have h0 : PostG (ev C A en st) (fun r s => PostG (rngM r.val.items s) (fun r st' => ∀ xs w J F' la' H', r = .it xs w → Ext F la H F' la' H' → StRel c F' la' H' st' → ItD c F' la' st' J xs w → Q J H') (PostX c ek F la H) ∧ r.val.items.length = 1) (PostX c ek F la H) :=
    PostG.imp (PostG.bnd h) (fun r s e q => ⟨q, hn _ _ _ _ e⟩) fun _ _ _ q => q
  refine sa.then_ re rs h0 fun ds s1 vs F1 la1 H1 h1 x1 s2 q1 => ?_
  obtain ⟨h1, hl⟩ := h1
  have h1 : PostG (rngM ds s1) _ _ := h1
  match ds, q1, h1, hl with
  | [d], .cons q .nil, h1, _ =>
    cases d with
    | int n =>
      cases q
      unfold rngM at h1
      dsimp only at h1
      split at h1
      · rename_i hb
        obtain ⟨b1, b2⟩ := smallI_is hb
        exact ⟨n, rfl, b1, b2, h1 _ _ _ F1 la1 H1 rfl x1 s2 (itD_rng 0 n.toNat)⟩
      · exact h1.elim
    | _ => exact h1.elim
theorem DI.rng2 {C : Cfg} {A : E} {tg : Expr} {p : Pos} (hg : Gl X "range") (hm : X.mg "range" = none) (ha : DA X c ek [a, b] (ev C A)) (hn : ∀ en st r s', ev C A en st = .ok r s' → r.val.items.length = 2) (hs : starEach [a, b] X.env = [(false, eval a X.env), (false, eval b X.env)])
    (hs2 : starEach [b] X.env = [(false, eval b X.env)]) : DI X c ek tg (.Call (.Name "range" p) [a, b] [] pos) (ev C (.rng A)) := by
  obtain ⟨ta, pa, sa⟩ := ha
  refine ⟨_, pi_range2 hg hm pa hs hs2, fun σ F la H en st Q re rs h => ?_⟩
  have h0 : PostG (ev C A en st) (fun r s => PostG (rngM r.val.items s) (fun r st' => ∀ xs w J F' la' H', r = .it xs w → Ext F la H F' la' H' → StRel c F' la' H' st' → ItD c F' la' st' J xs w → Q J H') (PostX c ek F la H) ∧ r.val.items.length = 2) (PostX c ek F la H) :=
    PostG.imp (PostG.bnd h) (fun r s e q => ⟨q, hn _ _ _ _ e⟩) fun _ _ _ q => q
  refine sa.then_ re rs h0 fun ds s1 vs F1 la1 H1 h1 x1 s2 q1 => ?_
  obtain ⟨h1, hl⟩ := h1
  have h1 : PostG (rngM ds s1) _ _ := h1
  match ds, q1, h1, hl with
  | [d, d'], .cons q (.cons q' .nil), h1, _ =>
    cases d with
    | int i =>
      cases d' with
      | int j =>
        cases q; cases q'
        unfold rngM at h1
        dsimp only at h1
        split at h1
        · rename_i hb
          rw [Bool.and_eq_true] at hb
          obtain ⟨b1, b2⟩ := smallI_is hb.1
          obtain ⟨b3, b4⟩ := smallI_is hb.2
          exact ⟨i, j, rfl, ⟨b1, b2, b3, b4⟩, h1 _ _ _ F1 la1 H1 rfl x1 s2 (itD_rng i (j - i).toNat)⟩
        · exact h1.elim
      | _ => exact h1.elim
    | _ => exact h1.elim
/-- what a source hands on: its watched cells are there, its items are few -/
def Src (m : En → M R) : Prop := ∀ en st xs w s', m en st = .ok (.it xs w) s' → (∀ n ∈ w, n < s'.length) ∧ xs.length ≤ sizeLine
theorem bnd_ok {α β : Type} {m : M α} {f : α → M β} {s s' : Store} {y : β} (h : bnd m f s = .ok y s') : ∃ x s1, m s = .ok x s1 ∧ f x s1 = .ok y s' := by
  unfold bnd at h
  cases e : m s with
  | ok a s1 => rw [e] at h; exact ⟨a, s1, rfl, h⟩
  | exc _ _ _ => rw [e] at h; cases h
  | bad => rw [e] at h; cases h
theorem locs_lt {d : D} {xs : List D} {s : Store} (h : seqOf s d = some xs) : ∀ n ∈ locsOf d, n < s.length := by
  intro n hn
  cases d with
  | loc m =>
    have hn : n ∈ [m] := hn
    rw [List.mem_singleton.mp hn]
    exact st_lt (loc_lst h)
  | _ => cases hn
theorem Src.itv {C : Cfg} {A : E} : Src (ev C (.itv A)) := by
  intro en st xs w s' h
  obtain ⟨r, s1, h1, h2⟩ := bnd_ok (show bnd (ev C A en) (fun x => itvM x.val) st = _ from h)
  unfold itvM at h2
  cases e : seqOf s1 r.val with
  | none => rw [e] at h2; cases h2
  | some ys =>
    rw [e] at h2
    have h2 : (if lim ys.length = true then Out.ok (R.it ys (locsOf r.val)) s1 else .bad) = .ok (.it xs w) s' := h2
    split at h2
    · rename_i hl
      cases h2
      exact ⟨locs_lt e, lim_le hl⟩
    · cases h2
theorem Src.rng {C : Cfg} {A : E} : Src (ev C (.rng A)) := by
  intro en st xs w s' h
  obtain ⟨r, s1, h1, h2⟩ := bnd_ok (show bnd (ev C A en) (fun x => rngM x.val.items) st = _ from h)
  have h2 : rngM r.val.items s1 = .ok (.it xs w) s' := h2
  generalize r.val.items = ds at h2
  unfold rngM at h2
  split at h2
  · split at h2
    · rename_i hb
      cases h2
      refine ⟨fun n hn => absurd hn List.not_mem_nil, ?_⟩
      unfold smallI at hb
      rw [Bool.and_eq_true] at hb
      have := of_decide_eq_true hb.2
      rw [rngL_len, sizeLine_eq]
      omega
    · cases h2
  · split at h2
    · rename_i hb
      cases h2
      refine ⟨fun n hn => absurd hn List.not_mem_nil, ?_⟩
      unfold smallI at hb
      rw [Bool.and_eq_true, Bool.and_eq_true, Bool.and_eq_true] at hb
      have h3 := of_decide_eq_true hb.1.1
      have h4 := of_decide_eq_true hb.2.2
      rw [rngL_len, sizeLine_eq]
      omega
    · cases h2
  · cases h2
/-! ### targets -/
/-- what a target's rule does -/
def SG (c : Cn) (g : TG) (tg : Tg) (own : List Nat) : Prop :=
  ∀ (v : V) (d : D) (σ : L2.St) (F : Hp) (la : List Addr) (H : Hp) (en en1 : En) (st : Store) (Q : L2.St → Hp → Prop), EnRel c F la σ en → StRel c F la H st → Fz c F la v d → bindT tg d en = some en1 →
    (∀ σ1, EnRel c F la σ1 en1 → L2.wipe σ1 own = L2.wipe σ own → Q σ1 H) → g v σ H Q
theorem wipe_set {o : Option V} {i : Nat} : ∀ {own : List Nat} {σ : L2.St}, i ∈ own → L2.wipe (σ.set i o) own = L2.wipe σ own
  | v :: vs, σ, h => by
    show (L2.wipe (σ.set i o) vs).set v none = (L2.wipe σ vs).set v none
    by_cases hv : i ∈ vs
    · rw [wipe_set hv]
    · have e : i = v := by
        rcases List.mem_cons.mp h with e | e
        · exact e
        · exact absurd e hv
      subst e
      have comm : ∀ (us : List Nat) (τ : L2.St), i ∉ us → L2.wipe (τ.set i o) us = (L2.wipe τ us).set i o := fun us => by
        induction us with
        | nil => intro τ _; rfl
        | cons u us ih =>
          intro τ hn
          have h1 : i ≠ u := fun z => hn (by rw [z]; exact List.mem_cons_self)
          have h2 : i ∉ us := fun z => hn (List.mem_cons_of_mem _ z)
          show (L2.wipe (τ.set i o) us).set u none = ((L2.wipe τ us).set u none).set i o
          rw [ih τ h2, List.set_comm _ _ h1]
      rw [comm vs σ hv, List.set_set]
theorem wipe_sub {own : List Nat} {σ : L2.St} : ∀ {vs : List Nat}, (∀ v ∈ vs, v ∈ own) → L2.wipe (L2.wipe σ vs) own = L2.wipe σ own
  | [], _ => rfl
  | v :: vs, h => by
    show L2.wipe ((L2.wipe σ vs).set v none) own = _
    rw [wipe_set (h v List.mem_cons_self), wipe_sub fun u hu => h u (List.mem_cons_of_mem _ hu)]
theorem SG.name {i : Nat} {own : List Nat} (h : i ∈ own) : SG c (gName i) (.nm i) own := by
  intro v d σ F la H en en1 st Q re rs q e k
  have e : some (en.set i (some d)) = some en1 := e
  cases e
  exact k _ (re.set i q) (wipe_set h)
/-- names one behind another -/
def gNames : List Nat → TGs
  | [] => gNil
  | i :: is => gCons (gName i) (gNames is)
theorem names_is {own : List Nat} : ∀ {is : List Nat} {vs : List V} {ds : List D} {σ : L2.St} {en en1 : En} {Q : L2.St → Hp → Prop}, (∀ i ∈ is, i ∈ own) → EnRel c F la σ en → FzL c F la vs ds → setAll is ds en = some en1 →
    (∀ σ1, EnRel c F la σ1 en1 → L2.wipe σ1 own = L2.wipe σ own → Q σ1 H) → gNames is vs σ H Q
  | [], [], [], σ, en, en1, Q, _, re, .nil, e, k => by
    have e : some en = some en1 := e
    cases e
    exact ⟨rfl, k σ re rfl⟩
  | i :: is, v :: vs, d :: ds, σ, en, en1, Q, ho, re, .cons r t, e, k => by
    refine ⟨v, vs, rfl, names_is (fun j hj => ho j (List.mem_cons_of_mem _ hj)) (re.set i r) t e fun σ1 r1 w1 => k σ1 r1 ?_⟩
    rw [w1, wipe_set (ho i List.mem_cons_self)]
  | [], _ :: _, _ :: _, _, _, _, _, _, _, .cons _ _, e, _ => by cases e
  | _ :: _, [], [], _, _, _, _, _, _, .nil, e, _ => by cases e
theorem setAll_len : ∀ {is : List Nat} {ds : List D} {en en1 : En}, setAll is ds en = some en1 → ds.length = is.length
  | [], [], _, _, _ => rfl
  | i :: is, d :: ds, en, en1, e => by
    have e : setAll is ds (en.set i (some d)) = some en1 := e
    rw [List.length_cons, List.length_cons, setAll_len e]
  | [], _ :: _, _, _, e => by cases e
  | _ :: _, [], _, _, e => by cases e
theorem SG.tup {is own : List Nat} (h : ∀ i ∈ is, i ∈ own) : SG c (gTup c.K is.length (gNames is)) (.tp is) own := by
  intro v d σ F la H en en1 st Q re rs q e k
  cases d with
  | tup ds =>
    have e : setAll is ds en = some en1 := e
    cases q with
    | @tup p vs _ h1 t => exact ⟨p, vs, rfl, sqT_mono rs.sub h1, by rw [t.length]; exact setAll_len e, names_is h re t e k⟩
  | _ => cases e
end
end PD

/-! Comprehensions. -/
namespace PD
open PySem PySem.Spec PyProof.Rows L2
/-- the reading that is just what m does -/
def TEof (c : Cn) (ek : XK) (m : En → M R) : TE := fun σ H Q => ∃ F la en st, EnRel c F la σ en ∧ StRel c F la H st ∧ PostE c ek F la H Q (m en st)
def TTof (c : Cn) (ek : XK) (m : En → M Bool) : TT := fun σ H Q => ∃ F la en st, EnRel c F la σ en ∧ StRel c F la H st ∧ PostB c ek F la H Q (m en st)
section
variable {X : Cx} {c : Cn} {ek : XK} {F F' H H' : Hp} {la la' : List Addr} {st : Store} {a b e : Expr} {es : List Expr} {ma mb mc : En → M R} {pos : Pos}
theorem DE.pe {m : En → M R} (h : DE X c ek e m) : PE X e (TEof c ek m) := by
  obtain ⟨t, p, s⟩ := h
  exact ⟨fun pins s' σ H Q I ⟨F, la, en, st, re, rs, po⟩ => p.run pins s' σ H Q I (s σ F la H en st Q re rs po)⟩
theorem DT.pt {m : En → M Bool} (h : DT X c ek e m) : PT X e (TTof c ek m) := by
  obtain ⟨t, p, s⟩ := h
  exact ⟨fun pins s' σ H Q I ⟨F, la, en, st, re, rs, po⟩ => p.run pins s' σ H Q I (s σ F la H en st Q re rs po)⟩

/-! ### comprehensions -/
/-- a turn's tests and item -/
def turnM (C : Cfg) (cond elt : E) (en1 : En) : M (Option D) :=
  nox (bnd (ev C cond en1) fun c => bnd (truM c.val) fun k => if k then bnd (ev C elt en1) fun y => rtn (some y.val) else rtn none)
theorem nox_is {α : Type} {m : M α} {P : α → Store → Prop} {Y : Nat → List D → Store → Prop} (h : PostG (nox m st) P Y) : PostG (m st) P fun _ _ _ => False := by
  unfold nox at h
  cases e : m st with
  | ok a s => rw [e] at h; exact h
  | exc _ _ _ => rw [e] at h; exact h
  | bad => rw [e] at h; exact h
theorem watch_trans {w : List Nat} {s0 s1 : Store} (h : watchOk w s0 s1 = true) : watchOk w s0 s1 = true := h
theorem watch_refl {w : List Nat} {s : Store} (h : ∀ n ∈ w, n < s.length) : watchOk w s s = true := by
  unfold watchOk
  refine List.all_eq_true.mpr fun n hn => ?_
  rw [List.getElem?_eq_getElem (h n hn)]
  exact Cell.beq_refl _
theorem comp_all {C : Cfg} {G B cond : E} {elt iter tg : Expr} {ifs : List Expr} {scope : Scope} {ownS : List (Str × Nat)} {own : List Nat} {T : Tg} {g : TG} {tt : TT} (ft : Ft X c)
    (hown : own = ownS.map (·.2)) (hi : DI X c ek tg iter (ev C G)) (ok : BlkOk X.N X.env.scope scope ownS)
    (hg : ∀ (s : Shared) (H : Hp) (C' : Addr) (cl : List (Str × Addr)) (fp : List Addr), PG (X.blk s H scope (compEnvC scope cl C' X.env) fp) tg g) (sg : SG c g T own)
    (ht : ∀ (s : Shared) (H : Hp) (C' : Addr) (cl : List (Str × Addr)) (fp : List Addr), PTs (X.blk s H scope (compEnvC scope cl C' X.env) fp) ifs tt) (stt : ST c E0 tt (tev C cond))
    (he : ∀ (s : Shared) (H : Hp) (C' : Addr) (cl : List (Str × Addr)) (fp : List Addr), DE (X.blk s H scope (compEnvC scope cl C' X.env) fp) c E0 elt (ev C B))
    (hs : ∀ x, foldedSetIterable iter X.env x = pure x) (hw : Src (ev C G)) :
    ∃ t, PE X (.ListComp elt [⟨tg, iter, ifs, 0⟩] scope pos) t ∧ SE c ek t (ev C (.comp B T G cond own)) ∧
      ∀ (i : Nat) (y : Str) (py spos : Pos), X.N[i]? = some y → X.env.scope.names.lookup y = some .local → swapsWith (.ListComp elt [⟨tg, iter, ifs, 0⟩] scope pos) (some (.Name y py)) spos.line X.env = pure true →
        PS X (.Assign [.Name y py] (.ListComp elt [⟨tg, iter, ifs, 0⟩] scope pos) spos) (tAsg t (gName i)) := by
  obtain ⟨ti, pi, si⟩ := hi
  subst hown
  refine ⟨_, pe_lc ft.calm ft.nd pi ok hg ht (fun s H C' cl fp => (he s H C' cl fp).pe) hs, fun σ F la H en st Q re rs h => ?_,
    fun i y py spos h1 h2 h3 => ps_setLc ft.calm ft.nd h1 h2 h3 pi ok hg ht (fun s H C' cl fp => (he s H C' cl fp).pe) hs⟩
  have h0 : PostG (ev C G en st) (fun r s => PostE c ek F la H Q ((match r with
      | .it xs w => fun st => bnd (compGo T (turnM C cond B) w st (PD.wipe en (ownS.map (·.2))) xs) (fun ys => rtn (.fr ys)) st
      | _ => badM : M R) s) ∧ ev C G en st = .ok r s) (PostX c ek F la H) := PostG.imp (PostG.bnd h) (fun r s e q => ⟨q, e⟩) fun _ _ _ q => q
  refine si σ F la H en st _ re rs (PostG.imp h0 (fun r s1 _ q xs w J F1 la1 H1 er x1 s2 jd => ?_) fun _ _ _ z => z)
  subst er
  obtain ⟨h1, e0⟩ := q
  obtain ⟨hw1, hw2⟩ := hw _ _ _ _ _ e0
  intro Lp hD
  -- what holds at turn i
  let Tn : Nat → List D → Store → Prop := fun i acc s' => PostG (compGo T (turnM C cond B) w s1 (PD.wipe en (ownS.map (·.2))) (xs.drop i) s')
    (fun ys s'' => ∀ v F' la' H', Ext F la H F' la' H' → StRel c F' la' H' s'' → RelR c H F' la' H' v (.fr (acc ++ ys)) → Q v H') (PostX c ek F la H)
  have t0 : Tn 0 [] s1 := PostG.imp (PostG.bnd h1) (fun ys s'' _ q => q) fun _ _ _ z => z
  refine ⟨fun i m H' => ∃ F' la' s' acc av, m = xs.length - i ∧ i ≤ xs.length ∧ Ext F1 la1 H1 F' la' H' ∧ StRel c F' la' H' s' ∧ H' Lp = some (.lst av) ∧ F' Lp = none ∧ Lp ∉ la' ∧ FzL c F' la' av acc ∧ watchOk w s1 s' = true ∧ av.length ≤ i ∧ Tn i acc s', ?_, ?_⟩
  · obtain ⟨x2, s3⟩ := ext_new (o := .lst []) s2 hD
    have hF : F1 Lp = none := by
      cases e : F1 Lp with
      | none => rfl
      | some u => rw [s2.sub Lp u e] at hD; cases hD
    exact ⟨xs.length, F1, la1, s1, [], [], rfl, Nat.zero_le _, x2, s3, upd_same, hF, fun z => s2.there z hD, .nil, watch_refl hw1, Nat.le_refl _, t0⟩
  · rintro i m H2 ⟨F2, la2, s3, acc, av, rfl, hi, x2, rs2, hDl, hDf, hDn, ta, wk, hal, tn⟩
    by_cases hlt : i < xs.length
    · refine .inr ⟨jd.go i F2 la2 H2 s3 hlt x2.mono rs2 wk, fun H' => ∃ m', m' < xs.length - i ∧ ∃ F' la' s' acc av, m' = xs.length - (i + 1) ∧ i + 1 ≤ xs.length ∧ Ext F1 la1 H1 F' la' H' ∧ StRel c F' la' H' s' ∧ H' Lp = some (.lst av) ∧ F' Lp = none ∧ Lp ∉ la' ∧ FzL c F' la' av acc ∧ watchOk w s1 s' = true ∧ av.length ≤ i + 1 ∧ Tn (i + 1) acc s',
        fun H' ⟨m', h1, h2⟩ => ⟨m', h1, h2⟩, fun v H3 y => ?_⟩
      obtain ⟨F3, x3, rs3, q3⟩ := jd.yld i F2 la2 H2 s3 v H3 _ (List.getElem?_eq_getElem hlt) x2.mono rs2 wk y
      have tn1 : PostG (compGo T (turnM C cond B) w s1 (PD.wipe en (ownS.map (·.2))) (xs.drop i) s3) _ _ := tn
      rw [List.drop_eq_getElem_cons hlt] at tn1
      unfold compGo at tn1
      cases eb : bindT T xs[i] (PD.wipe en (ownS.map (·.2))) with
      | none => rw [eb] at tn1; exact tn1.elim
      | some en1 =>
        rw [eb] at tn1
        have re3 : EnRel c F3 la2 (L2.wipe σ (ownS.map (·.2))) (PD.wipe en (ownS.map (·.2))) := (re.mono (x1.trans (x2.trans x3)).mono).wipe _
        refine sg v xs[i] _ F3 la2 H3 _ en1 s3 _ re3 rs3 q3 eb fun σ1 re4 w1 => ⟨?_, ?_⟩
        · rw [w1, wipe_sub fun _ h => h]
        -- the list Lp is not touched by what follows
        have keepD : ∀ {F4 : Hp} {la4 : List Addr} {H4 : Hp}, Ext F3 la2 H3 F4 la4 H4 → H4 Lp = some (.lst av) ∧ F4 Lp = none ∧ Lp ∉ la4 := fun {F4 la4 H4} x4 => by
          have x5 := x3.trans x4
          refine ⟨x5.keep Lp _ hDl hDn, ?_, fun z => ?_⟩
          · cases e : F4 Lp with
            | none => rfl
            | some u =>
              rcases x5.newF Lp u e with z | z
              · rw [hDf] at z; cases z
              · rw [hDl] at z; cases z
          · rcases x5.newL Lp z with z | z
            · exact hDn z
            · rw [hDl] at z; cases z
        have tn2 := nox_is (PostG.bnd tn1)
        have tn3 : PostG (bnd (tev C cond en1) (fun k => if k then bnd (ev C B en1) fun y => rtn (some y.val) else rtn none) s3) (fun o s5 => PostG ((fun st => if watchOk w s1 st then
            bnd (compGo T (turnM C cond B) w s1 (PD.wipe en (ownS.map (·.2))) (xs.drop (i + 1))) (fun ys => rtn (consO o ys)) st else .bad) s5) (fun ys s'' => ∀ v F' la' H', Ext F la H F' la' H' → StRel c F' la' H' s'' → RelR c H F' la' H' v (.fr (acc ++ ys)) → Q v H') (PostX c ek F la H)) (fun _ _ _ => False) := by
          unfold tev
          rw [bnd_assoc]
          exact tn2
        refine stt.then_ (F := F3) (la := la2) (H := H3) re4 rs3 (PostG.imp (PostG.bnd tn3) (fun _ _ _ z => z) fun _ _ _ z => z.elim) fun k s4 F4 la4 H4 tn4 x4 rs4 => ?_
        have later : ∀ {o : Option D} {s5 : Store} {F5 : Hp} {la5 : List Addr} {H5 : Hp} {acc' : List D}, (acc' = acc ++ consO o []) → (PostG ((if watchOk w s1 s5 then bnd (compGo T (turnM C cond B) w s1 (PD.wipe en (ownS.map (·.2))) (xs.drop (i + 1))) (fun ys => rtn (consO o ys)) else fun _ => .bad) s5) (fun ys s'' => ∀ v F' la' H', Ext F la H F' la' H' → StRel c F' la' H' s'' → RelR c H F' la' H' v (.fr (acc ++ ys)) → Q v H') (PostX c ek F la H)) → watchOk w s1 s5 = true ∧ Tn (i + 1) acc' s5 := fun {o s5 F5 la5 H5 acc'} ea hp => by
          by_cases hk : watchOk w s1 s5 = true
          · rw [if_pos hk] at hp
            refine ⟨hk, PostG.imp (PostG.bnd hp) (fun ys s'' _ q v F' la' H' x' s' rr => ?_) fun _ _ _ z => z⟩
            refine q v F' la' H' x' s' ?_
            rw [ea] at rr
            cases o with
            | none => simpa [consO] using rr
            | some y => simpa [consO] using rr
          · rw [if_neg hk] at hp; exact hp.elim
        cases k with
        | false =>
          rw [if_neg Bool.false_ne_true] at tn4 ⊢
          obtain ⟨g1, g2, g3⟩ := keepD x4
          obtain ⟨hk, tn5⟩ := later (o := none) (s5 := s4) (F5 := F4) (la5 := la4) (H5 := H4) rfl (by
            have z : PostG ((fun st => if watchOk w s1 st then bnd (compGo T (turnM C cond B) w s1 (PD.wipe en (ownS.map (·.2))) (xs.drop (i + 1))) (fun ys => rtn (consO none ys)) st else .bad) s4) _ _ := tn4
            by_cases hk : watchOk w s1 s4 = true
            · rw [if_pos hk]; dsimp only at z; rw [if_pos hk] at z; exact z
            · dsimp only at z; rw [if_neg hk] at z; exact z.elim)
          have m4 := x3.trans x4
          exact ⟨xs.length - (i + 1), by omega, F4, la4, s4, acc, av, rfl, hlt, x2.trans m4, rs4, g1, g2, g3, ta.mono m4.mono, hk, by omega, by rw [show acc ++ consO none [] = acc from List.append_nil acc] at tn5; exact tn5⟩
        | true =>
          rw [if_pos rfl] at tn4 ⊢
          refine ⟨F4, la4, en1, s4, re4.mono x4.mono, rs4, ?_⟩
          refine PostG.imp (PostG.bnd tn4) (fun r s5 _ tn5 v5 F5 la5 H5 x5 rs5 rr => ?_) fun _ _ _ z => z.elim
          obtain ⟨F6, x6, rs6, m6, q6⟩ := fix_val x5 rs5 rr
          obtain ⟨g1, g2, g3⟩ := keepD (x4.trans x6)
          obtain ⟨hk, tn6⟩ := later (o := some r.val) (s5 := s5) (F5 := F6) (la5 := la5) (H5 := H5) rfl (by
            have z : PostG ((fun st => if watchOk w s1 st then bnd (compGo T (turnM C cond B) w s1 (PD.wipe en (ownS.map (·.2))) (xs.drop (i + 1))) (fun ys => rtn (consO (some r.val) ys)) st else .bad) s5) _ _ := tn5
            by_cases hk : watchOk w s1 s5 = true
            · rw [if_pos hk]; dsimp only at z; rw [if_pos hk] at z; exact z
            · dsimp only at z; rw [if_neg hk] at z; exact z.elim)
          have m7 := x3.trans (x4.trans x6)
          refine ⟨av, g1, Nat.lt_of_le_of_lt hal (Nat.lt_of_lt_of_le hlt hw2), xs.length - (i + 1), by omega, F6, la5, s5, acc ++ [r.val], av ++ [v5], rfl, hlt, ?_, ?_, upd_same, g2, g3, (ta.mono m7.mono).append (.one q6), hk, by rw [List.length_append, List.length_singleton]; omega, tn6⟩
          · have x8 := x2.trans m7
            refine ⟨x8.mono, fun p o hp hn => ?_, fun p hp => ?_, x8.newF, x8.newL⟩
            · rw [upd_ne (show p ≠ Lp from fun z => by rw [z, hD] at hp; cases hp)]; exact x8.keep p o hp hn
            · rw [upd_ne (show p ≠ Lp from fun z => by rw [z] at hp; exact hp hD)]; exact x8.stay p hp
          · refine ⟨rs6.len, rs6.nd, rs6.free, fun p o hp => ?_, fun n p y h1 h2 => ?_⟩
            · rw [upd_ne (show p ≠ Lp from fun z => by rw [z, g2] at hp; cases hp)]; exact rs6.sub p o hp
            · refine (rs6.at_ n p y h1 h2).mono .refl fun o z => ?_
              rw [upd_ne (show p ≠ Lp from fun z' => g3 (by rw [← z']; exact List.mem_of_getElem? h1))]; exact z
    · have e : i = xs.length := by omega
      subst e
      refine .inl ⟨jd.stop F2 la2 H2 s3 x2.mono rs2 wk, ?_⟩
      have tn1 : PostG (compGo T (turnM C cond B) w s1 (PD.wipe en (ownS.map (·.2))) (xs.drop xs.length) s3) _ _ := tn
      rw [List.drop_length] at tn1
      have x3 := x1.trans x2
      exact tn1 (.ref Lp) F2 la2 H2 x3 rs2 ⟨Lp, av, rfl, hDl, x1.none_of hD, hDf, hDn, by rw [List.append_nil]; exact ta⟩
end
end PD

/-! Statements. -/
namespace PD
open PySem PySem.Spec PyProof.Rows L2
/-- how a statement's outcome lies -/
def FlIs (c : Cn) (F : Hp) (la : List Addr) (H : Hp) (D : Ends) : Fl → Prop
  | .nx en => ∀ σ, EnRel c F la σ en → D.nx σ H
  | .bk en => ∀ σ, EnRel c F la σ en → D.bk σ H
  | .ct en => ∀ σ, EnRel c F la σ en → D.ct σ H
  | .rt d => ∀ v, Fz c F la v d → D.rt v H
def PostS (c : Cn) (ek : XK) (F : Hp) (la : List Addr) (H : Hp) (D : Ends) (o : Out Fl) : Prop :=
  PostG o (fun fl st' => ∀ F' la' H', Ext F la H F' la' H' → StRel c F' la' H' st' → FlIs c F' la' H' D fl) (PostX c ek F la H)
def SS (c : Cn) (ek : XK) (t : TS) (m : En → M Fl) : Prop :=
  ∀ (σ : L2.St) (F : Hp) (la : List Addr) (H : Hp) (en : En) (st : Store) (D : Ends), EnRel c F la σ en → StRel c F la H st → PostS c ek F la H D (m en st) → t D σ H
def DS (X : Cx) (c : Cn) (ek : XK) (s : Stmt) (m : En → M Fl) : Prop := ∃ t, PS X s t ∧ SS c ek t m
def DSs (X : Cx) (c : Cn) (ek : XK) (s : List Stmt) (m : En → M Fl) : Prop := ∃ t, PSs X s t ∧ SS c ek t m
section
variable {X : Cx} {c : Cn} {ek : XK} {F F' H H' : Hp} {la la' : List Addr} {st : Store} {a b e : Expr} {es : List Expr} {ma mb mc : En → M R} {pos : Pos} {s : Stmt} {ss : List Stmt} {C : Cfg}
theorem PostS.later {D : Ends} {o : Out Fl} (x : Ext F la H F' la' H') (h : PostS c ek F la H D o) : PostS c ek F' la' H' D o :=
  PostG.imp h (fun fl s1 _ q F2 la2 H2 x2 s2 => q F2 la2 H2 (x.trans x2) s2) fun _ _ _ q => q.later x
theorem PostS.now {D : Ends} {en : En} {σ : L2.St} (h : PostS c ek F la H D (.ok (.nx en) st)) (rs : StRel c F la H st) (re : EnRel c F la σ en) : D.nx σ H := h F la H .refl rs σ re
theorem DSs.nil : DSs X c ek [] (ex C .skip) := ⟨tNext, pss_nil, fun σ F la H en st D re rs h => PostS.now h rs re⟩
theorem DS.doc {x : Str} {j : Nat} {p2 : Pos} : DS X c ek (.Expr (.Constant (.str x) j p2) pos) (ex C .skip) := ⟨tNext, ps_doc, fun σ F la H en st D re rs h => PostS.now h rs re⟩
theorem DS.pass : DS X c ek (.Pass pos) (ex C .skip) := ⟨tNext, ps_pass, fun σ F la H en st D re rs h => PostS.now h rs re⟩
theorem DS.brk : DS X c ek (.Break pos) (ex C .brk) := ⟨tBreak, ps_break, fun σ F la H en st D re rs h => h F la H .refl rs σ re⟩
theorem DS.cnt : DS X c ek (.Continue pos) (ex C .cnt) := ⟨tCont, ps_continue, fun σ F la H en st D re rs h => h F la H .refl rs σ re⟩
theorem DSs.cons {A B : S} (h1 : DS X c ek s (ex C A)) (h2 : DSs X c ek ss (ex C B)) : DSs X c ek (s :: ss) (ex C (.seq A B)) := by
  obtain ⟨t1, p1, s1⟩ := h1
  obtain ⟨t2, p2, s2⟩ := h2
  refine ⟨tSeq t1 t2, pss_cons p1 p2, fun σ F la H en st D re rs h => ?_⟩
  refine s1 σ F la H en st { D with nx := t2 D } re rs (PostG.imp (PostG.bnd h) (fun fl st1 _ q F1 la1 H1 x1 rs1 => ?_) fun _ _ _ z => z)
  cases fl with
  | nx e1 => exact fun σ1 re1 => s2 σ1 F1 la1 H1 e1 st1 D re1 rs1 (PostS.later x1 q)
  | bk e1 => exact q F1 la1 H1 x1 rs1
  | ct e1 => exact q F1 la1 H1 x1 rs1
  | rt d => exact q F1 la1 H1 x1 rs1
/-- a name's place -/
structure Slot (X : Cx) (i : Nat) (x : Str) : Prop where
  at_ : X.N[i]? = some x
  loc : Loc X.env.scope x
  fn : X.fn x = true
theorem set_SS {t : TE} {E : E} {i : Nat} (se : SE c ek t (ev C E)) : SS c ek (tAsg t (gName i)) (ex C (.set i E)) := by
  intro σ F la H en st D re rs h
  refine se.then_ re rs (PostG.bnd h) fun r s1 v F1 la1 H1 h1 x1 s2 q1 => ?_
  exact PostS.now (PostS.later x1 h1) s2 ((re.mono x1.mono).set i q1)
theorem DS.set {E : E} {i : Nat} {x : Str} {p2 : Pos} (ft : Ft X c) (hs : Slot X i x) (ha : DE X c ek a (ev C E)) (hw : swapsWith a (some (.Name x p2)) pos.line X.env = pure false) : DS X c ek (.Assign [.Name x p2] a pos) (ex C (.set i E)) := by
  obtain ⟨ta, pa, sa⟩ := ha
  exact ⟨_, ps_set ft.nd hs.at_ hs.loc pa hw (.inl hs.fn), set_SS sa⟩
theorem DS.unp {E : E} {is : List Nat} {T : Expr} (ha : DE X c ek a (ev C E)) (hg : PG X T (gTup c.K is.length (gNames is))) (hs : swapsWithSole [T] a pos.line X.env = pure false) (hw : swappedStores [T] a X.env = pure none)
    (h1 : (assignEach [T] X.env).map (·.2) = [assign T X.env]) : DS X c ek (.Assign [T] a pos) (ex C (.unp is E)) := by
  obtain ⟨ta, pa, sa⟩ := ha
  refine ⟨_, ps_asg pa hg hs hw h1, fun σ F la H en st D re rs h => ?_⟩
  refine sa.then_ re rs (PostG.bnd h) fun r s1 v F1 la1 H1 h1 x1 s2 q1 => ?_
  cases eb : bindT (.tp is) r.val en with
  | none => rw [eb] at h1; exact h1.elim
  | some en1 =>
    rw [eb] at h1
    exact (SG.tup (own := is) fun _ h => h) v r.val σ F1 la1 H1 en en1 s1 _ (re.mono x1.mono) s2 q1 eb fun σ1 re1 _ => PostS.now (PostS.later x1 h1) s2 re1
theorem DS.par2 {A B : E} {i j : Nat} {x y : Str} {px py pt p2 : Pos} {kt k2 : Nat} (ft : Ft X c) (hi : X.N[i]? = some x) (hj : X.N[j]? = some y) (hij : i ≠ j) (hx : X.env.scope.names.lookup x = some .local) (hy : X.env.scope.names.lookup y = some .local)
    (ha : DA X c ek [a, b] (ev C (.cons A (.cons B .nil)))) (hw : swappedStores [.Tuple [.Name x px, .Name y py] kt pt] (.Tuple [a, b] k2 p2) X.env = pure (some [x, y]))
    (hs : swapsWithSole [.Tuple [.Name x px, .Name y py] kt pt] (.Tuple [a, b] k2 p2) pos.line X.env = pure false) :
    DS X c ek (.Assign [.Tuple [.Name x px, .Name y py] kt pt] (.Tuple [a, b] k2 p2) pos) (ex C (.unp [i, j] (.tup (.cons A (.cons B .nil))))) := by
  obtain ⟨ta, pa, sa⟩ := ha
  refine ⟨_, ps_par ft.calm ft.nd hi hj hij hx hy pa hw hs, fun σ F la H en st D re rs h => ?_⟩
  have h0 := PostG.bnd h
  have h1 : PostG (bnd (ev C (.cons A (.cons B .nil)) en) (fun x : R => if lim x.val.items.length then rtn (R.d (.tup x.val.items)) else badM) st) _ _ := h0
  refine sa.then_ re rs (PostG.bnd h1) fun ds s1 vs F1 la1 H1 h2 x1 s2 q1 => ?_
  by_cases hl : lim ds.length = true
  · rw [show (R.d (PD.D.tup ds)).val.items = ds from rfl, if_pos hl] at h2
    have h2 : PostG ((match bindT (.tp [i, j]) (.tup ds) en with
      | some en1 => rtn (.nx en1)
      | none => badM : M Fl) s1) _ _ := h2
    match ds, vs, q1, h2 with
    | [d1, d2], [v1, v2], .cons q1 (.cons q2 .nil), h2 => exact ⟨v1, v2, rfl, PostS.now (PostS.later x1 h2) s2 (((re.mono x1.mono).set i q1).set j q2)⟩
    | [], _, _, h2 => exact h2.elim
    | [_], _, _, h2 => exact h2.elim
    | _ :: _ :: _ :: _, _, _, h2 => exact h2.elim
  · rw [show (R.d (PD.D.tup ds)).val.items = ds from rfl, if_neg hl] at h2
    exact h2.elim
theorem DS.par3 {A B G : E} {g : Expr} {i j l : Nat} {x y z : Str} {px py pz pt p2 : Pos} {kt k2 : Nat} (ft : Ft X c) (hi : X.N[i]? = some x) (hj : X.N[j]? = some y) (hl : X.N[l]? = some z) (hij : i ≠ j) (hil : i ≠ l) (hjl : j ≠ l)
    (hx : X.env.scope.names.lookup x = some .local) (hy : X.env.scope.names.lookup y = some .local) (hz : X.env.scope.names.lookup z = some .local)
    (ha : DA X c ek [a, b, g] (ev C (.cons A (.cons B (.cons G .nil))))) (hw : swappedStores [.Tuple [.Name x px, .Name y py, .Name z pz] kt pt] (.Tuple [a, b, g] k2 p2) X.env = pure (some [x, y, z]))
    (hs : swapsWithSole [.Tuple [.Name x px, .Name y py, .Name z pz] kt pt] (.Tuple [a, b, g] k2 p2) pos.line X.env = pure false) :
    DS X c ek (.Assign [.Tuple [.Name x px, .Name y py, .Name z pz] kt pt] (.Tuple [a, b, g] k2 p2) pos) (ex C (.unp [i, j, l] (.tup (.cons A (.cons B (.cons G .nil)))))) := by
  obtain ⟨ta, pa, sa⟩ := ha
  refine ⟨_, ps_par3 ft.calm ft.nd hi hj hl hij hil hjl hx hy hz pa hw hs, fun σ F la H en st D re rs h => ?_⟩
  have h0 := PostG.bnd h
  have h1 : PostG (bnd (ev C (.cons A (.cons B (.cons G .nil))) en) (fun x : R => if lim x.val.items.length then rtn (R.d (.tup x.val.items)) else badM) st) _ _ := h0
  refine sa.then_ re rs (PostG.bnd h1) fun ds s1 vs F1 la1 H1 h2 x1 s2 q1 => ?_
  by_cases hl : lim ds.length = true
  · rw [show (R.d (PD.D.tup ds)).val.items = ds from rfl, if_pos hl] at h2
    have h2 : PostG ((match bindT (.tp [i, j, l]) (.tup ds) en with
      | some en1 => rtn (.nx en1)
      | none => badM : M Fl) s1) _ _ := h2
    match ds, vs, q1, h2 with
    | [d1, d2, d3], [v1, v2, v3], .cons q1 (.cons q2 (.cons q3 .nil)), h2 => exact ⟨v1, v2, v3, rfl, PostS.now (PostS.later x1 h2) s2 ((((re.mono x1.mono).set i q1).set j q2).set l q3)⟩
    | [], _, _, h2 => exact h2.elim
    | [_], _, _, h2 => exact h2.elim
    | [_, _], _, _, h2 => exact h2.elim
    | _ :: _ :: _ :: _ :: _, _, _, h2 => exact h2.elim
  · rw [show (R.d (PD.D.tup ds)).val.items = ds from rfl, if_neg hl] at h2
    exact h2.elim
/-! ### stores into cells -/
theorem sti_is {o i z : D} {vo vi vz : V} {Q : Hp → Prop} {P : Unit → Store → Prop} {Y : Nat → List D → Store → Prop} (rs : StRel c F la H st) (q1 : Fz c F la vo o) (q2 : Fz c F la vi i) (q3 : Fz c F la vz z) (h : PostG (stiM o i z st) P Y)
    (k : ∀ s1 H1, P () s1 → Ext F la H F la H1 → StRel c F la H1 s1 → Q H1) : rSetL vo vi vz H Q := by
  cases o with
  | loc n =>
    cases i with
    | int j =>
      cases q1 with
      | @loc _ p e =>
        cases q2
        have h : PostG (match st[n]? with
          | some (.lst xs) => match ixN xs.length j with
            | some j => .ok () (st.set n (.lst (xs.set j z)))
            | none => .bad
          | _ => .bad) P Y := h
        split at h
        · rename_i xs e1
          obtain ⟨vs, h1, t⟩ := rs.get e e1
          split at h
          · rename_i j' e2
            obtain ⟨x1, s1⟩ := cell_write (x := .lst (xs.set j' z)) (o := .lst (vs.set j' vz)) rs e (st_lt e1) ⟨_, upd_same, t.set q3 j'⟩
            exact ⟨p, vs, j, j', rfl, rfl, h1, by rw [t.length]; exact e2, k _ _ h x1 s1⟩
          · exact h.elim
        · exact h.elim
    | _ => exact h.elim
  | _ => exact h.elim
theorem DS.sti {A B G : E} {g : Expr} {p2 : Pos} (hg : DE X c ek g (ev C G)) (ha : DE X c ek a (ev C A)) (hb : DE X c ek b (ev C B)) (hs : swapsWithSole [.Subscript a b p2] g pos.line X.env = pure false) (hw : swappedStores [.Subscript a b p2] g X.env = pure none)
    (h1 : (assignEach [.Subscript a b p2] X.env).map (·.2) = [assign (.Subscript a b p2) X.env])
    (hasg : ∀ v, assign (.Subscript a b p2) X.env v = (do
      let ov ← holding [v] (eval a X.env)
      let iv ← holding [v, ov] (eval b X.env)
      standAt p2
      holding [v, ov, iv] (setItem ov iv v)
      release [v, ov, iv] [])) : DS X c ek (.Assign [.Subscript a b p2] g pos) (ex C (.sti A B G)) := by
  obtain ⟨ta, pa, sa⟩ := ha
  obtain ⟨tb, pb, sb⟩ := hb
  obtain ⟨tg, pg, sg⟩ := hg
  refine ⟨_, ps_asg pg (pg_sub pa pb set_list hasg) hs hw h1, fun σ F la H en st D re rs h => ?_⟩
  refine sg.then_ re rs (PostG.bnd h) fun r0 s0 v0 F0 la0 H0 h0 x0 rs0 q0 => ?_
  refine sa.then_ (re.mono x0.mono) rs0 (PostG.imp (PostG.bnd h0) (fun _ _ _ z => z) fun _ _ _ z => z.later x0) fun r1 s1 v1 F1 la1 H1 h1 x1 rs1 q1 => ?_
  refine sb.then_ (re.mono (x0.trans x1).mono) rs1 (PostG.imp (PostG.bnd h1) (fun _ _ _ z => z) fun _ _ _ z => z.later (x0.trans x1)) fun r2 s2 v2 F2 la2 H2 h2 x2 rs2 q2 => ?_
  have x3 := x0.trans (x1.trans x2)
  refine sti_is rs2 (q1.mono x2.mono) q2 (q0.mono (x1.trans x2).mono) (PostG.bnd h2) fun s3 H3 h3 x4 rs3 => ?_
  exact PostS.now (PostS.later (x3.trans x4) h3) rs3 (re.mono x3.mono)
theorem putV_is {k : Key} {v : V} {z d : D} (q : Fz c F la v z) : ∀ {ks : List Key} {vs : List V} {ds : List D}, ks.Nodup → ks.length = vs.length → FzL c F la vs ds → klook ks ds k = some d → ∃ us, putK (ks.zip vs) k v = ks.zip us ∧ us.length = vs.length ∧ FzL c F la us (kputV ks ds k z)
  | [], _, _, _, _, _, e => by simp [klook] at e
  | _ :: _, _, _, _, _, .nil, e => by simp [klook] at e
  | k' :: ks, w :: ws, d' :: ds, hn, hl, .cons r t, e => by
    have hn2 := List.nodup_cons.mp hn
    have hl2 : ks.length = ws.length := Nat.succ.inj hl
    by_cases hk : k' = k
    · refine ⟨v :: ws, ?_, rfl, by simp only [kputV, if_pos hk]; exact .cons q t⟩
      subst hk
      have no : ∀ p ∈ ks.zip ws, p.1 ≠ k' := fun p hp z' => hn2.1 (by rw [← z']; exact (List.of_mem_zip hp).1)
      unfold putK
      rw [List.zip_cons_cons, List.zip_cons_cons, if_pos (by simp), List.map_cons, if_pos rfl]
      congr 1
      rw [List.map_congr_left (g := id) (fun p hp => by rw [if_neg (no p hp)]; rfl), List.map_id]
    · simp only [klook, if_neg hk] at e
      obtain ⟨us, h1, h2, h3⟩ := putV_is q hn2.2 hl2 t e
      refine ⟨w :: us, ?_, by rw [List.length_cons, List.length_cons, h2], by simp only [kputV, if_neg hk]; exact .cons r h3⟩
      have any_is : ((ks.zip ws).any fun kv => decide (kv.1 = k)) = true := by
        by_cases ha : ((ks.zip ws).any fun kv => decide (kv.1 = k)) = true
        · exact ha
        · obtain ⟨x, g1, _⟩ := klook_is t e
          exfalso
          apply ha
          unfold valV at g1
          rw [Option.map_eq_some_iff] at g1
          obtain ⟨p, g2, _⟩ := g1
          exact List.any_eq_true.mpr ⟨p, List.mem_of_find?_eq_some g2, by have := List.find?_some g2; exact this⟩
      unfold putK at h1 ⊢
      rw [if_pos any_is] at h1
      rw [List.zip_cons_cons, List.zip_cons_cons, if_pos (by simp only [List.any_cons, any_is, Bool.or_true]), List.map_cons, if_neg hk, h1]
theorem DS.stk {A G : E} {g : Expr} {k : Str} {j : Nat} {p2 p3 : Pos} (ft : Ft X c) (hg : DE X c ek g (ev C G)) (ha : DE X c ek a (ev C A)) (hw : swapsWith g (some (.Subscript a (.Constant (.str k) j p3) p2)) pos.line X.env = pure false) :
    DS X c ek (.Assign [.Subscript a (.Constant (.str k) j p3) p2] g pos) (ex C (.stk A k G)) := by
  obtain ⟨ta, pa, sa⟩ := ha
  obtain ⟨tg, pg, sg⟩ := hg
  refine ⟨_, ps_dput (by have := ft.un; omega) pa pe_str pg hw, fun σ F la H en st D re rs h => ?_⟩
  refine sg.then_ re rs (PostG.bnd h) fun r0 s0 v0 F0 la0 H0 h0 x0 rs0 q0 => ?_
  refine sa.then_ (re.mono x0.mono) rs0 (PostG.imp (PostG.bnd h0) (fun _ _ _ z => z) fun _ _ _ z => z.later x0) fun r1 s1 v1 F1 la1 H1 h1 x1 rs1 q1 => ?_
  have h2 := PostG.bnd h1
  cases e1 : r1.val with
  | loc n =>
    rw [e1] at q1 h2
    cases q1 with
    | @loc _ p e =>
      have h2 : PostG (match s1[n]? with
        | some (.dct ks vs) => if decide ks.Nodup && (klook ks vs (Sum.inr k)).isSome && lim ks.length then .ok () (s1.set n (.dct ks (kputV ks vs (Sum.inr k) r0.val))) else .bad
        | _ => .bad) _ _ := h2
      split at h2
      · rename_i ks ds e2
        split at h2
        · rename_i hc
          rw [Bool.and_eq_true, Bool.and_eq_true] at hc
          obtain ⟨vs, g1, gl, t⟩ := rs1.get e e2
          obtain ⟨d, ed⟩ := Option.isSome_iff_exists.mp hc.1.2
          obtain ⟨us, g2, g3, g4⟩ := putV_is (q0.mono x1.mono) (of_decide_eq_true hc.1.1) gl t ed
          obtain ⟨x2, rs2⟩ := cell_write (x := .dct ks (kputV ks ds (Sum.inr k) r0.val)) (o := .dK (ks.zip us)) rs1 e (st_lt e2) ⟨us, upd_same, by rw [g3]; exact gl, g4⟩
          have hz : (ks.zip vs).length < sizeLine := by
            rw [List.length_zip]
            have := lim_lt hc.2
            omega
          have hp : DPut H1 p (kV (Sum.inr k)) v0 (upd H1 p (.dK (putK (ks.zip vs) (Sum.inr k) v0))) := DPut.k g1 hz
          rw [g2] at hp
          exact ⟨p, _, rfl, hp, PostS.now (PostS.later (ek := ek) (x0.trans (x1.trans x2)) h2) rs2 (re.mono (x0.trans x1).mono)⟩
        · exact h2.elim
      · exact h2.elim
  | _ => rw [e1] at h2; exact h2.elim
/-! ### op= -/
def rAug : BOp → R2
  | .add => rI0 fun i j => .int (i + j)
  | .sub => rI0 fun i j => .int (i - j)
  | .mul => rI (fun i j => mulOk i j = true) fun i j => .int (i * j)
  | _ => fun _ _ _ _ => False
theorem iop_mulG : OpR X (inplaceOp .Mult) (rI (fun i j => mulOk i j = true) fun i j => .int (i * j)) := opI fun i j _ _ _ _ _ hc q => by
  refine imul_int q ?_
  unfold mulOk at hc
  rw [Bool.or_eq_true, Bool.or_eq_true, Bool.and_eq_true, Bool.and_eq_true] at hc
  rcases hc with (⟨h1, h2⟩ | ⟨h1, h2⟩) | h1
  · exact CMul.ok (.inl ⟨of_decide_eq_true h1, of_decide_eq_true h2⟩)
  · exact CMul.ok (.inr ⟨of_decide_eq_true h1, of_decide_eq_true h2⟩)
  · have h2 : i.natAbs.log2 + j.natAbs.log2 < 1000000 := of_decide_eq_true h1
    exact CMulW.ok h2
def augs : List (BOp × Operator) := [(.add, .Add), (.sub, .Sub), (.mul, .Mult)]
theorem aug_rule {k : BOp} {o : Operator} (hk : (k, o) ∈ augs) : PIp X o (rAug k) := by
  simp only [augs, List.mem_cons, Prod.mk.injEq, List.not_mem_nil, or_false] at hk
  rcases hk with ⟨rfl, rfl⟩ | ⟨rfl, rfl⟩ | ⟨rfl, rfl⟩
  · exact iop_add
  · exact iop_sub
  · exact iop_mulG
theorem aug_is {k : BOp} {o : Operator} (hk : (k, o) ∈ augs) : OpS c ek (rAug k) (augM k) := by
  intro x y v u F la H st Q rs q1 q2 h
  cases x with
  | int i =>
    cases y with
    | int j =>
      cases q1; cases q2
      simp only [augs, List.mem_cons, Prod.mk.injEq, List.not_mem_nil, or_false] at hk
      rcases hk with ⟨rfl, rfl⟩ | ⟨rfl, rfl⟩ | ⟨rfl, rfl⟩
      · exact ⟨i, j, rfl, rfl, PostE.now h rs (.int _)⟩
      · exact ⟨i, j, rfl, rfl, PostE.now h rs (.int _)⟩
      · have h : PostE c ek F la H Q ((if mulOk i j then rtn (.d (.int (i * j))) else badM : M R) st) := h
        by_cases hm : mulOk i j = true
        · rw [if_pos hm] at h
          exact ⟨i, j, rfl, rfl, hm, PostE.now h rs (.int _)⟩
        · rw [if_neg hm] at h; exact h.elim
    | _ => exact h.elim
  | _ => exact h.elim
theorem DS.aug {A : E} {i : Nat} {x : Str} {k : BOp} {o : Operator} {p2 : Pos} (ft : Ft X c) (hs : Slot X i x) (hk : (k, o) ∈ augs) (ha : DE X c ek a (ev C A)) : DS X c ek (.AugAssign (.Name x p2) o a pos) (ex C (.aug k i A)) := by
  obtain ⟨ta, pa, sa⟩ := ha
  refine ⟨_, ps_aug ft.nd hs.at_ hs.loc pa (aug_rule hk) (.inl hs.fn), fun σ F la H en st D re rs h => ?_⟩
  unfold ex at h
  cases e1 : en[i]? with
  | none => rw [e1] at h; exact h.elim
  | some o1 =>
    cases o1 with
    | none => rw [e1] at h; exact h.elim
    | some d =>
      rw [e1] at h
      obtain ⟨w, hw, qw⟩ := re.at_ i d e1
      refine ⟨w, hw, ?_⟩
      refine sa.then_ re rs (PostG.bnd h) fun r s1 v F1 la1 H1 h1 x1 s2 q1 => ?_
      refine aug_is hk d r.val w v F1 la1 H1 s1 _ s2 (qw.mono x1.mono) q1 (PostG.imp (PostG.bnd h1) (fun r2 s3 _ h2 z F2 la2 H2 x2 s4 rr => ?_) fun _ _ _ z => z.later x1)
      obtain ⟨F3, x3, s5, m3, q3⟩ := fix_val x2 s4 rr
      exact PostS.now (PostS.later (x1.trans x3) h2) s5 ((re.mono (x1.trans x3).mono).set i q3)
theorem list_get : PGet X (rIxL X.K) := by
  intro pins s σ H o i ov iv Q I r1 r2 h
  obtain ⟨p, xs, k, v, rfl, rfl, hq, e1, q⟩ := h
  cases r1
  obtain ⟨t, rfl⟩ := r2
  obtain ⟨its, rv, pl, hz⟩ := I.list hq
  obtain ⟨j, h1, h2, h3, h4, h5⟩ := atI_get e1
  obtain ⟨u, hu, ru⟩ := rv.get h2
  have hl := rv.length
  have hn := line63
  have fin : EP X pins σ Q u s := ⟨v, H, I, ru, q⟩
  by_cases h0 : 0 ≤ k
  · have hj : k.toNat = j := by
      rw [seqIndex_of h0 h5] at h1
      exact Option.some.inj h1
    exact wpAny_getItem_list pl.isList h0 (by omega) (by rw [hj]; simpa using hu) fin
  · have hj : (k + (its.toArray.size : Int)).toNat = j := by
      rw [seqIndex_neg (by omega) h4] at h1
      rw [List.size_toArray, ← hl]
      exact Option.some.inj h1
    exact wpAny_getItem_list_neg pl.isList (by omega) (by rw [List.size_toArray] <;> omega) (by omega) (by rw [hj]; simpa using hu) fin
theorem idx_lst {x i : D} {v u : V} {Q : V → Hp → Prop} {P : R → Store → Prop} {Y : Nat → List D → Store → Prop} (rs : StRel c F la H st) (q1 : Fz c F la v x) (q2 : Fz c F la u i) (hl : ∃ n, x = .loc n) (h : PostG (idxM x i st) P Y)
    (k : ∀ d w, P (.d d) st → Fz c F la w d → Q w H) : rIxL c.K v u H Q := by
  obtain ⟨n, rfl⟩ := hl
  cases i with
  | int j =>
    cases q2
    cases q1 with
    | @loc _ p e =>
      have h : PostG (match st[n]? with
        | some (.lst xs) => match (ixN xs.length j).bind (xs[·]?) with
          | some d => .ok (.d d) st
          | none => .bad
        | _ => .bad) P Y := h
      split at h
      · rename_i ds e0
        split at h
        · rename_i d e1
          obtain ⟨vs, g1, t⟩ := rs.get e e0
          obtain ⟨w, h1, h2⟩ := at_is t e1
          exact ⟨_, _, _, w, rfl, rfl, .inl (.inl g1), h1, k d w h h2⟩
        · exact h.elim
      · exact h.elim
  | _ => exact h.elim
theorem sti_loc {o i z : D} {P : Unit → Store → Prop} {Y : Nat → List D → Store → Prop} (h : PostG (stiM o i z st) P Y) : ∃ n, o = .loc n := by
  cases o with
  | loc n => exact ⟨n, rfl⟩
  | _ => exact h.elim
theorem DS.augi {A B G : E} {g : Expr} {k : BOp} {o : Operator} {p2 : Pos} (ft : Ft X c) (hk : (k, o) ∈ augs) (ha : DE X c ek a (ev C A)) (hb : DE X c ek b (ev C B)) (hg : DE X c ek g (ev C G))
    (hst : ∀ ov iv new, augStore b ov iv new = (do holding [new, ov, iv] (setItem ov iv new); release [new, ov, iv] []; pure .next)) : DS X c ek (.AugAssign (.Subscript a b p2) o g pos) (ex C (.augi k A B G)) := by
  obtain ⟨ta, pa, sa⟩ := ha
  obtain ⟨tb, pb, sb⟩ := hb
  obtain ⟨tg, pg, sg⟩ := hg
  refine ⟨_, ps_augS pa pb list_get pg (aug_rule hk) set_list hst, fun σ F la H en st D re rs h => ?_⟩
  rw [ft.K]
  refine sa.then_ re rs (PostG.bnd h) fun r1 s1 v1 F1 la1 H1 h1 x1 rs1 q1 => ?_
  refine sb.then_ (re.mono x1.mono) rs1 (PostG.imp (PostG.bnd h1) (fun _ _ _ z => z) fun _ _ _ z => z.later x1) fun r2 s2 v2 F2 la2 H2 h2 x2 rs2 q2 => ?_
  have h3 := h2
  cases e0 : r1.val with
  | loc n =>
    rw [e0] at h3 q1
    have h4 := PostG.bnd h3
    refine idx_lst rs2 (q1.mono x2.mono) q2 ⟨n, rfl⟩ h4 fun d w h5 qw => ?_
    have x12 := x1.trans x2
    refine sg.then_ (re.mono x12.mono) rs2 (PostG.imp (PostG.bnd h5) (fun _ _ _ z => z) fun _ _ _ z => z.later x12) fun r3 s3 v3 F3 la3 H3 h6 x3 rs3 q3 => ?_
    have x13 := x12.trans x3
    refine aug_is hk d r3.val w v3 F3 la3 H3 s3 _ rs3 (qw.mono x3.mono) q3 (PostG.imp (PostG.bnd h6) (fun r4 s4 _ h7 z F4 la4 H4 x4 rs4 rr => ?_) fun _ _ _ z => z.later x13)
    obtain ⟨F5, x5, rs5, m5, q5⟩ := fix_val x4 rs4 rr
    have x15 := x13.trans x5
    refine sti_is rs5 (q1.mono (x2.trans (x3.trans x5)).mono) (q2.mono (x3.trans x5).mono) q5 (PostG.bnd h7) fun s6 H6 h8 x6 rs6 => ?_
    exact PostS.now (PostS.later (x15.trans x6) h8) rs6 (re.mono x15.mono)
  | _ => rw [e0] at h3; exact h3.elim
/-! ### the rest -/
theorem DS.exp {A : E} (ha : DE X c ek a (ev C A)) (hs : swapsWith a none pos.line X.env = pure false) : DS X c ek (.Expr a pos) (ex C (.exp A)) := by
  obtain ⟨ta, pa, sa⟩ := ha
  refine ⟨_, ps_expr pa hs, fun σ F la H en st D re rs h => ?_⟩
  exact sa.then_ re rs (PostG.bnd h) fun r s1 v F1 la1 H1 h1 x1 s2 q1 => PostS.now (PostS.later x1 h1) s2 (re.mono x1.mono)
theorem DS.ret {A : E} (ha : DE X c ek a (ev C A)) : DS X c ek (.Return (some a) pos) (ex C (.ret A)) := by
  obtain ⟨ta, pa, sa⟩ := ha
  refine ⟨_, ps_ret pa, fun σ F la H en st D re rs h => ?_⟩
  exact sa.then_ re rs (PostG.bnd h) fun r s1 v F1 la1 H1 h1 x1 s2 q1 => h1 F1 la1 H1 x1 s2 v q1
theorem DS.retn : DS X c ek (.Return none pos) (ex C .retn) := ⟨_, ps_retN, fun σ F la H en st D re rs h => h F la H .refl rs .non .non⟩
theorem DS.ite {G : E} {A B : S} {g : Expr} {s1 s2 : List Stmt} (hg : DT X c ek g (tev C G)) (ha : DSs X c ek s1 (ex C A)) (hb : DSs X c ek s2 (ex C B)) : DS X c ek (.If g s1 s2 pos) (ex C (.ite G A B)) := by
  obtain ⟨tg, pg, sg⟩ := hg
  obtain ⟨ta, pa, sa⟩ := ha
  obtain ⟨tb, pb, sb⟩ := hb
  refine ⟨_, ps_if pg pa pb, fun σ F la H en st D re rs h => ?_⟩
  refine sg.then_ re rs (PostG.bnd h) fun k s1 F1 la1 H1 h1 x1 rs1 => ?_
  cases k with
  | true => rw [if_pos rfl] at h1 ⊢; exact sa σ F1 la1 H1 en s1 D (re.mono x1.mono) rs1 (PostS.later x1 h1)
  | false => rw [if_neg Bool.false_ne_true] at h1 ⊢; exact sb σ F1 la1 H1 en s1 D (re.mono x1.mono) rs1 (PostS.later x1 h1)
theorem DS.whl {G : E} {B : S} {g : Expr} {body : List Stmt} (hp : PassesOwn (model X.prog X.w) X.A X.env X.xe) (hg : DT X c ek g (tev C G)) (hb : DSs X c ek body (ex C B)) : DS X c ek (.While g body [] pos) (ex C (.whl G B)) := by
  obtain ⟨tg, pg, sg⟩ := hg
  obtain ⟨tb, pb, sb⟩ := hb
  refine ⟨_, ps_while hp pg pb, fun σ F la H en st D re rs h => ?_⟩
  refine ⟨fun m σ' H' => ∃ F' la' s' en', Ext F la H F' la' H' ∧ StRel c F' la' H' s' ∧ EnRel c F' la' σ' en' ∧ PostS c ek F la H D (whlGo (tev C G) (ex C B) m en' s'), ⟨C.W, F, la, st, en, .refl, rs, re, h⟩, ?_⟩
  rintro m σ1 H1 ⟨F1, la1, s1, e1, x1, rs1, re1, h1⟩
  cases m with
  | zero => exact h1.elim
  | succ m =>
    refine sg.then_ re1 rs1 (PostG.imp (PostG.bnd h1) (fun _ _ _ z => z) fun _ _ _ z => z.later x1) fun k s2 F2 la2 H2 h2 x2 rs2 => ?_
    cases k with
    | false =>
      rw [if_neg Bool.false_ne_true] at h2 ⊢
      exact PostS.now (PostS.later (x1.trans x2) h2) rs2 (re1.mono x2.mono)
    | true =>
      rw [if_pos rfl] at h2 ⊢
      refine ⟨fun σ' H' => ∃ F' la' s' en', Ext F la H F' la' H' ∧ StRel c F' la' H' s' ∧ EnRel c F' la' σ' en' ∧ PostS c ek F la H D (whlGo (tev C G) (ex C B) m en' s'), fun σ' H' q => ⟨m, Nat.lt_succ_self _, q⟩, ?_⟩
      refine sb σ1 F2 la2 H2 e1 s2 _ (re1.mono x2.mono) rs2 (PostG.imp (PostG.bnd h2) (fun fl s3 _ h3 F3 la3 H3 x3 rs3 => ?_) fun _ _ _ z => z.later (x1.trans x2))
      have x13 := x1.trans (x2.trans x3)
      cases fl with
      | nx e2 => exact fun σ3 re3 => ⟨F3, la3, s3, e2, x13, rs3, re3, h3⟩
      | ct e2 => exact fun σ3 re3 => ⟨F3, la3, s3, e2, x13, rs3, re3, h3⟩
      | bk e2 => exact fun σ3 re3 => PostS.now (PostS.later x13 h3) rs3 re3
      | rt d => exact h3 F3 la3 H3 x13 rs3
theorem DS.loop {G : E} {B : S} {T : Tg} {g : TG} {tg iter : Expr} {body : List Stmt} {own : List Nat} (hp : PassesOwn (model X.prog X.w) X.A X.env X.xe) (ft : Ft X c) (hi : DI X c ek tg iter (ev C G)) (hg : PG X tg g) (sg : SG c g T own) (hb : DSs X c ek body (ex C B))
    (hs : ∀ x, foldedSetIterable iter X.env x = pure x) (hw : Src (ev C G)) : DS X c ek (.For tg iter body [] pos) (ex C (.loop T G B)) := by
  obtain ⟨ti, pi, si⟩ := hi
  obtain ⟨tb, pb, sb⟩ := hb
  refine ⟨_, ps_for hp ft.calm pi hg pb hs, fun σ F la H en st D re rs h => ?_⟩
  have h0 : PostG (ev C G en st) (fun r s => PostS c ek F la H D ((match r with
      | .it xs w => fun st => forGo T (ex C B) w st xs en st
      | _ => badM : M Fl) s) ∧ ev C G en st = .ok r s) (PostX c ek F la H) := PostG.imp (PostG.bnd h) (fun r s e q => ⟨q, e⟩) fun _ _ _ q => q
  refine si σ F la H en st _ re rs (PostG.imp h0 (fun r s1 _ q xs w J F1 la1 H1 er x1 rs1 jd => ?_) fun _ _ _ z => z)
  subst er
  obtain ⟨h1, e0⟩ := q
  obtain ⟨hw1, _⟩ := hw _ _ _ _ _ e0
  refine ⟨fun i m σ' H' => ∃ F' la' s' en', m = xs.length - i ∧ i ≤ xs.length ∧ Ext F1 la1 H1 F' la' H' ∧ StRel c F' la' H' s' ∧ EnRel c F' la' σ' en' ∧ watchOk w s1 s' = true ∧ PostS c ek F la H D (forGo T (ex C B) w s1 (xs.drop i) en' s'),
    ⟨xs.length, F1, la1, s1, en, rfl, Nat.zero_le _, .refl, rs1, re.mono x1.mono, watch_refl hw1, h1⟩, ?_⟩
  rintro i m σ2 H2 ⟨F2, la2, s2, e2, rfl, hi, x2, rs2, re2, wk, h2⟩
  by_cases hlt : i < xs.length
  · refine .inr ⟨jd.go i F2 la2 H2 s2 hlt x2.mono rs2 wk, fun σ' H' => ∃ F' la' s' en', Ext F1 la1 H1 F' la' H' ∧ StRel c F' la' H' s' ∧ EnRel c F' la' σ' en' ∧ watchOk w s1 s' = true ∧ PostS c ek F la H D (forGo T (ex C B) w s1 (xs.drop (i + 1)) en' s'),
      fun σ' H' ⟨F', la', s', en', q⟩ => ⟨xs.length - (i + 1), by omega, F', la', s', en', rfl, hlt, q⟩, fun v H3 y => ?_⟩
    obtain ⟨F3, x3, rs3, q3⟩ := jd.yld i F2 la2 H2 s2 v H3 _ (List.getElem?_eq_getElem hlt) x2.mono rs2 wk y
    rw [List.drop_eq_getElem_cons hlt] at h2
    unfold forGo at h2
    cases eb : bindT T xs[i] e2 with
    | none => rw [eb] at h2; exact h2.elim
    | some e3 =>
      rw [eb] at h2
      refine sg v xs[i] σ2 F3 la2 H3 e2 e3 s2 _ (re2.mono x3.mono) rs3 q3 eb fun σ3 re3 _ => ?_
      have x23 := x2.trans x3
      refine sb σ3 F3 la2 H3 e3 s2 _ re3 rs3 (PostG.imp (PostG.bnd h2) (fun fl s4 _ h4 F4 la4 H4 x4 rs4 => ?_) fun _ _ _ z => z.later (x1.trans x23))
      have x24 := x23.trans x4
      have go : ∀ e4 : En, PostS c ek F la H D ((if watchOk w s1 s4 then forGo T (ex C B) w s1 (xs.drop (i + 1)) e4 s4 else .bad)) → watchOk w s1 s4 = true ∧ PostS c ek F la H D (forGo T (ex C B) w s1 (xs.drop (i + 1)) e4 s4) := fun e4 z => by
        by_cases hk : watchOk w s1 s4 = true
        · rw [if_pos hk] at z; exact ⟨hk, z⟩
        · rw [if_neg hk] at z; exact z.elim
      cases fl with
      | nx e4 =>
        obtain ⟨hk, z⟩ := go e4 h4
        exact fun σ4 re4 => ⟨F4, la4, s4, e4, x24, rs4, re4, hk, z⟩
      | ct e4 =>
        obtain ⟨hk, z⟩ := go e4 h4
        exact fun σ4 re4 => ⟨F4, la4, s4, e4, x24, rs4, re4, hk, z⟩
      | bk e4 => exact fun σ4 re4 => PostS.now (PostS.later (x1.trans x24) h4) rs4 re4
      | rt d => exact h4 F4 la4 H4 (x1.trans x24) rs4
  · have e : i = xs.length := by omega
    subst e
    refine .inl ⟨jd.stop F2 la2 H2 s2 x2.mono rs2 wk, ?_⟩
    rw [List.drop_length] at h2
    exact PostS.now (PostS.later (x1.trans x2) h2) rs2 re2
end
end PD

/-! More rules: a row read backward. -/
namespace PD
open PySem PySem.Spec PyProof.Rows L2
section
variable {X : Cx} {c : Cn} {ek : XK} {F F' H H' : Hp} {la la' : List Addr} {st : Store} {a b e : Expr} {es : List Expr} {pos : Pos}
/-! ### a[::-1] -/
theorem adjust_back (n : Nat) : Builtin.Slice.sliceAdjust none none (-1) (n : Int) = ((n : Int) - 1, -1) := by
  unfold Builtin.Slice.sliceAdjust
  rfl
theorem places_back (n : Nat) : Builtin.Slice.slicePlaces ((n : Int) - 1) (-1) (-1) = n := by
  unfold Builtin.Slice.slicePlaces
  have h1 : ¬ ((-1 : Int) > 0) := by decide
  have h2 : (- (-1) : Int) = 1 := by decide
  simp only [h1, if_false, h2, Int.ediv_one]
  split <;> omega
theorem pick_back (xs : Array Value) : ((List.range xs.size).filterMap fun (m : Nat) => xs[((xs.size : Int) - 1 + (m : Int) * (-1)).toNat]?).toArray = xs.toList.reverse.toArray := by
  have e : (fun (m : Nat) => xs[((xs.size : Int) - 1 + (m : Int) * (-1)).toNat]?) = fun m => xs[xs.size - 1 - m]? := by
    funext m
    have : ((xs.size : Int) - 1 + (m : Int) * (-1)).toNat = xs.size - 1 - m := by omega
    rw [this]
  rw [e]
  have q := PySem.W.krv_all xs
  have r := PySem.W.krv_range xs.size
  rw [← q, ← List.filterMap_reverse, ← r, List.filterMap_map]
  rfl
section
variable {prog : Program} {w : World} {A : Around} {E : Value → Shared → Prop} {s : Shared}
theorem applied_back {sl : Addr} {vk : Value} {n : Nat} {Q : Int × Int × Nat → Shared → Prop} (hs : s.heap.IsSliceOf sl .none .none vk) (pk : IsPart vk (some (-1)))
    (h : Q ((n : Int) - 1, -1, n) s) : wpAny (model prog w) A (Builtin.Slice.sliceApplied (.ref sl) (pure (n : Int))) Q E s := by
  obtain ⟨os, hos, hcs, hds⟩ := id hs
  unfold Builtin.Slice.sliceApplied Builtin.Slice.sliceFields
  refine wpAny_bind (wpAny_bind (wpAny_field hos hds (x := .none) rfl (wpAny_bind (wpAny_field hos hds (x := .none) rfl (wpAny_bind (wpAny_field hos hds (x := vk) rfl (wpAny_pure ?_)))))))
  refine wpAny_bind (HT.slicePart_ pk ?_)
  show wpAny _ _ (if ((-1 : Int) == 0) = true then _ else _) _ _ s
  rw [if_neg (by decide)]
  refine wpAny_bind (HT.slicePart_ .none (wpAny_bind (HT.slicePart_ .none (wpAny_bind (wpAny_pure ?_)))))
  show wpAny _ _ (match Builtin.Slice.sliceAdjust none none (-1) (n : Int) with | (lo, hi) => pure (lo, (-1 : Int), Builtin.Slice.slicePlaces lo hi (-1))) _ _ s
  rw [adjust_back]
  show wpAny _ _ (pure ((n : Int) - 1, (-1 : Int), Builtin.Slice.slicePlaces ((n : Int) - 1) (-1) (-1))) _ _ s
  rw [places_back]
  exact wpAny_pure h
theorem tuple_back {t sl : Addr} {items : Array Value} {vk : Value} {Q : Value → Shared → Prop} (ht : IsTup s.heap t items) (hs : s.heap.IsSliceOf sl .none .none vk) (pk : IsPart vk (some (-1)))
    (h : Q (.ref s.heap.objs.size) { s with heap := s.heap.push { cls := .type "tuple", data := .seq items.toList.reverse.toArray } })
    (hsz : items.size ≤ sizeLine) : wpAny (model prog w) A (getItem (.ref t) (.ref sl)) Q E s := by
  have fits : sizeOk (.seq items.toList.reverse.toArray) := by
    show items.toList.reverse.toArray.size ≤ sizeLine
    rw [List.size_toArray, List.length_reverse, Array.length_toList]
    exact hsz
  obtain ⟨os, hos, hcs, hds⟩ := id hs
  have isS : s.TypeIs (.ref sl) "slice" := ⟨os, hos, hcs⟩
  unfold getItem
  try with_reducible refine wpAny_holding ?_
  first | refine wpAny_bind (wpAny_pure ?_) | skip
  refine wpAny_bind (wpAny_sequenceKey ht.typeIs (by decide) ?_)
  refine wpAny_bind (wpAny_callSpecial?_slot (name := Str.ofString "__getitem__") ht.typeIs PyProof.Rows.slot_tuple_getitem
    (wpAny_call_entry PyProof.Rows.slot_tuple_getitem ht.typeIs entry_tuple_getitem ?_ (args_tuple_getitem _ _)))
  show wpAny _ _ (Builtin.Tuple.tupleItemsOf (.ref t) >>= _) _ _ s
  refine wpAny_bind (tupleItemsOf_ ht ?_)
  refine wpAny_bind (wpAny_typeOf isS ?_)
  rw [if_pos (by decide)]
  refine wpAny_bind (applied_back hs pk ?_)
  have no : ¬ ((((items.size : Nat) : Int) - 1 == 0 && (-1 : Int) == 1 && items.size == items.size) = true) := by
    intro q
    rw [Bool.and_eq_true, Bool.and_eq_true] at q
    exact absurd q.1.2 (by decide)
  show wpAny _ _ (if (((items.size : Nat) : Int) - 1 == 0 && (-1 : Int) == 1 && items.size == items.size) = true then _ else _) _ _ s
  rw [if_neg no, pick_back]
  first
    | exact wpAny_bind (m := Builtin.Tuple.tupleExact _) (wpAny_newObj_type (wpAny_pure ⟨_, rfl, wpAny_pure h⟩) fits)
    | exact wpAny_bind (wpAny_bind (m := Builtin.Tuple.tupleExact _) (wpAny_newObj_type (wpAny_pure ⟨_, rfl, wpAny_pure h⟩) fits))
end
/-- what a[::-1] is -/
def rBack (K : PySem.W.Frag) : V → Hp → VK → Prop := fun x H Q => (∃ p xs, x = .ref p ∧ SqT K H p xs ∧ ∀ q, H q = none → Q (.ref q) (upd H q (.tup xs.reverse))) ∨
  ∃ p xs, x = .ref p ∧ SqL K H p xs ∧ ∀ q, H q = none → Q (.ref q) (upd H q (.lst xs.reverse))
theorem pe_back {te : TE} {j : Nat} {p1 p2 p3 : Pos} (he : PE X e te) : PE X (.Subscript e (.Slice none none (some (.UnaryOp .USub (.Constant (.int 1) j p1) p2)) p3) pos) (fun σ H Q => te σ H fun x H1 => rBack X.K x H1 Q) := by
  refine ⟨fun pins s σ H Q I h => ?_⟩
  refine Subscript_ (thn (he.run pins s σ H _ I h) fun v s1 ⟨x, H1, I1, r1, q1⟩ => ?_)
  refine wpAny_Slice ?_
  rw [evalPart_none]
  refine wpAny_pure ?_
  refine wpAny_pure ?_
  have pm : PO X (some (.UnaryOp .USub (.Constant (.int 1) j p1) p2)) (tPart _) := po_some (pe_un un_neg pe_int)
  refine thn (pm.run pins s1 σ H1 (fun o H' => o = some (-1) ∧ H' = H1) I1 ⟨_, rfl, _, rfl, rfl, rfl⟩) fun vk s2 ⟨o, H2, I2, pk, e1, e2⟩ => ?_
  subst e1; subst e2
  have I4 : Inv X pins σ H2 { s2 with heap := s2.heap.push { cls := .type "slice", data := .fields #[.none, .none, vk] } } := I2.kept (t' := s2.toks) fun b ob q => Heap.get?_push_of_some _ q
  have new := Heap.IsSliceOf.new s2.heap .none .none vk
  rcases q1 with ⟨p, xs, rfl, hx, q⟩ | ⟨p, xs, rfl, hx, q⟩
  · cases r1
    obtain ⟨its, r, ht, hz⟩ := I4.tuple hx
    have hlen : its.toArray.size = xs.length := by rw [List.size_toArray]; exact r.length.symm
    refine tail_any (ops := [.ref p, .ref s2.heap.objs.size]) ht.typeIs slot_tuple_getitem.lookup (tuple_back ht new pk ?_ (by rw [hlen]; exact hz)) (by with_unfolding_all rfl)
    refine ⟨.ref _, _, I4.laid (t' := s2.toks) (o := .tup xs.reverse) (fun b ob q => Heap.get?_push_of_some _ q) (Nat.le_refl _) ?_, rfl, q _ (I4.hok.fresh (Nat.le_refl _))⟩
    exact ⟨by rw [List.length_reverse]; exact hz, _, r.reverse, IsTup.new _ _⟩
  · cases r1
    obtain ⟨its, r, ht, hz⟩ := I4.list hx
    have hlen := r.length
    refine tail_any (ops := [.ref p, .ref s2.heap.objs.size]) ht.isList.typeIs slot_list_getitem.lookup (wpAny_getItem_list_slice ht.isList new .none .none pk (by decide) ?_ (by rw [List.size_toArray] <;> omega)) (by with_unfolding_all rfl)
    rw [PySem.W.krv_pick]
    refine ⟨.ref _, _, I4.laid (t' := s2.toks) (o := .lst xs.reverse) (fun b ob q => Heap.get?_push_of_some _ q) (Nat.le_refl _) ?_, rfl, q _ (I4.hok.fresh (Nat.le_refl _))⟩
    exact ⟨by rw [List.length_reverse]; exact hz, _, 0, r.reverse, Heap.get?_push_size _ rfl⟩
theorem DE.rev {C : Cfg} {A : E} {j : Nat} {p1 p2 p3 : Pos} (ft : Ft X c) (ha : DE X c ek a (ev C A)) : DE X c ek (.Subscript a (.Slice none none (some (.UnaryOp .USub (.Constant (.int 1) j p1) p2)) p3) pos) (ev C (.rev A)) := by
  obtain ⟨ta, pa, sa⟩ := ha
  refine ⟨_, pe_back pa, fun σ F la H en st Q re rs h => ?_⟩
  refine sa.then_ re rs (PostG.bnd h) fun r s1 v F1 la1 H1 h1 x1 s2 q1 => ?_
  have h2 := PostE.later x1 h1
  rw [ft.K]
  by_cases z : ∃ ds, r.val = .tup ds
  · obtain ⟨ds, z⟩ := z
    rw [z] at q1 h2
    cases q1 with
    | @tup p vs _ o t => exact .inl ⟨p, vs, rfl, sqT_mono s2.sub o, fun q hq => PostE.tupled h2 s2 t.reverse hq⟩
  have h3 : PostE c ek F1 la1 H1 Q (match lstOf s1 r.val with
    | some xs => .ok (.fr xs.reverse) s1
    | none => .bad) := by
    cases e1 : r.val <;> first
      | (rw [e1] at h2; exact h2)
      | exact absurd ⟨_, e1⟩ z
  cases e1 : lstOf s1 r.val with
  | none => rw [e1] at h3; exact h3.elim
  | some xs =>
    rw [e1] at h3
    cases e2 : r.val with
    | lst ds =>
      rw [e2] at q1 e1
      cases e1
      cases q1 with
      | @lst p vs _ o t => exact .inr ⟨p, vs, rfl, .inl (.inl (s2.sub _ _ o)), fun q hq => PostE.fresh h3 s2 t.reverse hq⟩
    | loc n =>
      rw [e2] at q1 e1
      obtain ⟨p, vs, rfl, o, t⟩ := lstOf_is s2 q1 e1
      exact .inr ⟨p, vs, rfl, .inl (.inl o), fun q hq => PostE.fresh h3 s2 t.reverse hq⟩
    | _ =>
      rw [e2] at e1
      cases e1
end
end PD

/-! More rules: enumerate over lists and tuples, with a start; zip. -/
namespace PySem
open Sem (wp)
/-- enumerate over what begins, no start told -/
theorem pd_enum_new {v : Value} {o : Obj} {H : Heap → Prop} (B : Begins v o H) :
    Meets (Builtin.«enumerate.__new__» ⟨[.type "enumerate", v], []⟩) (fun _ R s => H s.heap ∧
      R (.ok (.ret (.ref (s.heap.push o).objs.size))) { s with heap := (s.heap.push o).push { cls := .type "enumerate", data := .fields #[.none, .bool false, .ref s.heap.objs.size, rawInt 0, .none, .none] } }) :=
  .of_wp fun prog w A R s h => by
    obtain ⟨hp, gs, dr, tk, os⟩ := s
    obtain ⟨hH, h⟩ := h
    have hsub := sub_enumerate
    have go : ∀ {A' : Around} {E : Value → Shared → Prop} {Q : Value → Shared → Prop}, Q (.ref hp.objs.size) ⟨hp.push o, gs, dr, tk, os⟩ → wpAny (model prog w) A' (pyIter v) Q E ⟨hp, gs, dr, tk, os⟩ :=
      fun q => B.iter prog w _ _ ⟨hp, gs, dr, tk, os⟩ _ hH q
    wp_walk using go
    refine wpAny_stack_any fun _ => wpAny_pure ?_
    split
    · rename_i cc _ _ _ _ _
      cases (cc == Value.type "enumerate") <;> (wp_walk using go; exact ⟨_, rfl, h⟩)
    · wp_walk using go
      exact ⟨_, rfl, h⟩
theorem pd_enum_call {prog : Program} {w : World} {A : Around} {E : Value → Shared → Prop} {s : Shared} {v : Value} {o : Obj} {H : Heap → Prop} {Q : Value → Shared → Prop} (B : Begins v o H) (hH : H s.heap)
    (h : ∀ h', IsEnum h' (s.heap.objs.size + 1) s.heap.objs.size 0 .none → h'.get? s.heap.objs.size = some o → h'.objs.size = s.heap.objs.size + 2 →
      (∀ b o, s.heap.get? b = some o → h'.get? b = some o) → Q (.ref (s.heap.objs.size + 1)) { s with heap := h' }) :
    wpAny (model prog w) A (call (.type "enumerate") [v]) Q E s := by
  refine callType_new F.called_enumerate (by decide) (F.typeCall_enumerate_1 _) (F.newCall_enumerate_1 _) (fun obj => F.args_object_init_2 obj _) F.entry_enumerate_new (pd_enum_new B) ⟨hH, ?_⟩
  have sz : (s.heap.push o).objs.size = s.heap.objs.size + 1 := Heap.size_push ..
  show _ ∧ _
  rw [sz]
  have it : IsEnum ((s.heap.push o).push { cls := .type "enumerate", data := .fields #[.none, .bool false, .ref s.heap.objs.size, rawInt 0, .none, .none] }) (s.heap.objs.size + 1) s.heap.objs.size 0 .none := by
    have q := Heap.get?_push_size (s.heap.push o) (o := { cls := .type "enumerate", data := .fields #[.none, .bool false, .ref s.heap.objs.size, rawInt 0, .none, .none] }) rfl
    rw [sz] at q; exact q
  exact ⟨⟨_, it, rfl⟩, h _ it (Heap.get?_push_of_some _ (Heap.get?_push_size _ B.free)) (by rw [Heap.size_push, sz]) fun b o x => Heap.get?_push_of_some _ (Heap.get?_push_of_some _ x)⟩
end PySem
namespace PD
open PySem PySem.Spec PyProof.Rows L2
/-- a tuple (t), a list -/
def SqB (K : PySem.W.Frag) (t : Bool) (H : Hp) (a : Addr) (xs : List V) : Prop := match t with
  | true => SqT K H a xs
  | false => SqL K H a xs
def ItB (t : Bool) (it a : Addr) (i : Nat) (h : Heap) : Prop := match t with
  | true => h.IsTupleIter it a i
  | false => h.IsListIter it a i
def IsB (t : Bool) (h : Heap) (a : Addr) (its : Array Value) : Prop := match t with
  | true => h.IsTuple a its
  | false => h.IsList a its
theorem invB {X : Cx} {pins : List (Addr × Obj)} {σ : L2.St} {H : Hp} {s : Shared} (I : Inv X pins σ H s) {t : Bool} {a : Addr} {xs : List V} (h : SqB X.K t H a xs) : ∃ its, Vals xs its ∧ IsB t s.heap a its.toArray ∧ a < s.heap.objs.size := by
  cases t with
  | true =>
    obtain ⟨its, r, p, _⟩ := I.tuple h
    have p' : s.heap.IsTuple a its.toArray := p
    obtain ⟨o, e, _⟩ := id p'
    exact ⟨its, r, p', Heap.lt_size e⟩
  | false =>
    obtain ⟨its, r, p, _⟩ := I.list h
    exact ⟨its, r, p.isList, p.lt⟩
theorem injB {X : Cx} {pins : List (Addr × Obj)} {σ : L2.St} {H : Hp} {s : Shared} (I : Inv X pins σ H s) {t : Bool} {a : Addr} {xs ys : List V} (h : SqB X.K t H a xs) (h' : SqB X.K t H a ys) : xs = ys := by
  cases t with
  | true => exact I.tuple_inj h h'
  | false => exact I.list_inj h h'
theorem itB_at {t : Bool} {it a : Addr} {i : Nat} {h h' : Heap} (x : ItB t it a i h) (k : ∀ o, h.get? it = some o → h'.get? it = some o) : ItB t it a i h' := by
  cases t with
  | true => exact Heap.IsTupleIter.at x k
  | false => exact Heap.IsListIter.at x k
theorem itB_obj {t : Bool} {it a : Addr} {i : Nat} {h : Heap} (x : ItB t it a i h) : ∃ o, h.get? it = some o ∧ o.data = .fields #[.ref a, rawInt i] := by
  cases t with
  | true =>
    obtain ⟨o, e, _, d⟩ := x
    exact ⟨o, e, d⟩
  | false =>
    obtain ⟨o, e, _, d⟩ := x
    exact ⟨o, e, d⟩
theorem drawsB {prog : Program} {w : World} {A : Around} (hh : A.handled = none) (t : Bool) (it a : Addr) (hne : a ≠ it) (items : Array Value) :
    Draws prog w A it [it, a] items.size (fun i v => items[i]? = some v) (fun i h => ItB t it a i h ∧ IsB t h a items) := by
  cases t with
  | true => exact Draws.tuple hh it a hne items
  | false => exact Draws.list hh it a hne items
/-- the items of a as they stand at each turn, each in a new pair with its number -/
def IteB (K : PySem.W.Frag) (t : Bool) (k : Int) (a : Addr) : It :=
  ⟨fun i H => ∃ (xs : List V) (x : V), SqB K t H a xs ∧ xs[i]? = some x,
    fun i H v H' => ∃ T x, v = .ref T ∧ H T = none ∧ H' = upd H T (.tup [.int (k + (i : Nat)), x]) ∧ ∀ xs, SqB K t H a xs → xs[i]? = some x,
    fun i H => ∃ xs : List V, SqB K t H a xs ∧ xs.length = i⟩
theorem turn_enumB {P : Program} {w : World} {K : PySem.W.Frag} {elts : List Expr} {kk : Nat} {tpos : Pos} (t : Bool) (k : Int) (a e it : Addr) :
    Turn P w K (.Tuple elts kk tpos) (IteB K t k a) [e, it] e (fun i h => (∃ old, IsEnum h e it (k + ((i : Nat) : Int)) old) ∧ ItB t it a i h ∧ e ≠ it ∧ e ≠ a ∧ a ≠ it) where
  mem := by simp
  obj := fun i h st b hb => by
    obtain ⟨⟨old, he⟩, hi, _⟩ := st
    have e' : b = e ∨ b = it := by simpa using hb
    rcases e' with z | z
    · rw [z]; exact ⟨_, he, fun v q => nomatch q⟩
    · obtain ⟨o, ho, hd⟩ := itB_obj hi
      rw [z]; exact ⟨o, ho, fun v q => by rw [hd] at q; cases q⟩
  keep := fun i h h' st k => let ⟨⟨old, he⟩, hi, hne⟩ := st; ⟨⟨old, k e (by simp) _ he⟩, itB_at hi fun o q => k it (by simp) o q, hne⟩
  item := by
    intro X hP hw hK hc i pins s σ H E I hf st hg
    subst hP hw hK
    obtain ⟨⟨old, he⟩, hit, hne, hea, hai⟩ := st
    obtain ⟨xs, x, hq, hx⟩ := hg
    obtain ⟨its, rv, p, _⟩ := invB I hq
    obtain ⟨u, hu, ru⟩ := rv.get hx
    have hel : e < s.heap.objs.size := Heap.lt_size he
    have hil : it < s.heap.objs.size := by obtain ⟨_, q, _⟩ := itB_obj hit; exact Heap.lt_size q
    have hlt : i < its.toArray.size := by
      rw [List.size_toArray]
      exact (List.getElem?_eq_some_iff.mp hu).1
    have D := drawsB (prog := X.prog) (w := X.w) (A := X.A.in1) (show X.A.in1.handled = none from I.ok.hd hc) t it a hai its.toArray
    refine wpAny_pyNext_enum_itemC D he ⟨hit, p⟩ hlt hne (by simp [hne, hea]) fun y h' tk hy ho st' hT hsz hk => ?_
    have ey : y = u := by
      have z : its[i]? = some y := by simpa using hy
      rw [hu] at z; cases z; rfl
    subst ey
    refine ⟨_, rfl, wpAny_letOwnedTupleGo_enum (s := { s with heap := h', toks := tk + 1 }) ho fun h'' he' sb => ?_⟩
    have hT2 : h''.get? s.heap.objs.size = some { cls := .type "tuple", data := .seq #[.int (k + (i : Int)) tk, y] } := (sb.2 _ (Nat.ne_of_gt hel)).trans hT
    have new : ObjOk X.prog X.w (upd H s.heap.objs.size (.tup [.int (k + (i : Nat)), x])) h'' s.heap.objs.size (.tup [.int (k + (i : Nat)), x]) :=
      ⟨by show 2 ≤ sizeLine; decide, [.int (k + (i : Int)) tk, y], .cons ⟨_, rfl⟩ (.cons ru .nil), ⟨_, hT2, rfl, _, rfl⟩⟩
    have I1 : Inv X pins σ (upd H s.heap.objs.size (.tup [.int (k + (i : Nat)), x])) { s with heap := h'', toks := tk + 1 } :=
      I.turnedNew (t' := tk + 1) (ch := [e, it]) (fun b ob hb q => (sb.2 b (fun z => hb (by simp [z]))).trans (hk b ob (fun z => hb (by simp [z])) (fun z => hb (by simp [z])) q)) hf (Nat.le_refl _) new
    refine ⟨.ref s.heap.objs.size, _, I1, rfl, ⟨_, x, rfl, I.hok.fresh (Nat.le_refl _), rfl, fun ys hys => by rw [injB I hys hq]; exact hx⟩, ⟨⟨y, ?_⟩, itB_at st'.1 fun o q => (sb.2 it (Ne.symm hne)).trans q, hne, hea, hai⟩, fun b hb => ?_⟩
    · have e1 : k + ((i + 1 : Nat) : Int) = k + (i : Int) + 1 := by omega
      rw [e1]; exact he'
    · have hb' : b < s.heap.objs.size := by
        have e' : b = e ∨ b = it := by simpa using hb
        rcases e' with z | z
        · rw [z]; exact hel
        · rw [z]; exact hil
      rw [upd_ne (Nat.ne_of_lt hb')]
      exact (hf b hb).1
  done := by
    intro X hP hw hK hc i pins s σ H E I hf st hg
    subst hP hw hK
    obtain ⟨⟨old, he⟩, hit, hne, hea, hai⟩ := st
    obtain ⟨xs, hq, hx⟩ := hg
    obtain ⟨its, rv, p, _⟩ := invB I hq
    have D := drawsB (prog := X.prog) (w := X.w) (A := X.A.in1) (show X.A.in1.handled = none from I.ok.hd hc) t it a hai its.toArray
    obtain ⟨f0, f1, f2, f3, f4, f5⟩ := hf it (by simp)
    have hn : its.toArray.size = i := by rw [List.size_toArray, ← rv.length, hx]
    exact wpAny_pyNext_enum_endD D he (by rw [hn]; exact ⟨hit, p⟩) fun h' eb => ⟨rfl, I.turned (t' := s.toks) (fun b o hb q => eb b o hb q) f0 f1 f3 f4 f5⟩
  self := fun A i s Q E st h => let ⟨⟨_, he⟩, _⟩ := st; wpAny_pyIter_enum he h
def iEnuB (K : PySem.W.Frag) (k : Int) (more : List V) (ta : TA) : TI := fun σ H R => ta σ H fun vs H1 => ∃ a t xs, vs = .ref a :: more ∧ SqB K t H1 a xs ∧ R (IteB K t k a) H1
section
variable {X : Cx} {c : Cn} {ek : XK} {F F' H H' : Hp} {la la' : List Addr} {st : Store} {a b e e2 : Expr} {es : List Expr} {pos : Pos}
theorem enu_start {k : Int} {t : Bool} {pins : List (Addr × Obj)} {s1 : Shared} {σ : L2.St} {H1 : Hp} {R : It → Hp → Prop} {elts : List Expr} {kk : Nat} {tpos : Pos} {a : Addr} {xs : List V} {h' : Heap} {o : Obj} (I1 : Inv X pins σ H1 s1) (hq : SqB X.K t H1 a xs) (q : R (IteB X.K t k a) H1)
    (ho : o = (match t with
      | true => { cls := .type "tuple_iterator", data := .fields #[.ref a, .int 0 0] }
      | false => { cls := .type "list_iterator", data := .fields #[.ref a, .int 0 0] }))
    (he : IsEnum h' (s1.heap.objs.size + 1) s1.heap.objs.size k .none) (hit : h'.get? s1.heap.objs.size = some o) (hsz : h'.objs.size = s1.heap.objs.size + 2) (hk : ∀ b o, s1.heap.get? b = some o → h'.get? b = some o) :
    wpAny (model X.prog X.w) X.A (pyIter (.ref (s1.heap.objs.size + 1))) (PIE X pins σ (.Tuple elts kk tpos) R) X.xe { s1 with heap := h' } := by
  obtain ⟨its, rv, p, hlt⟩ := invB I1 hq
  have I2 : Inv X pins σ H1 { s1 with heap := h' } := I1.kept (t' := s1.toks) hk
  have hitB : ItB t s1.heap.objs.size a 0 h' := by
    subst ho
    cases t with
    | true => exact ⟨_, hit, rfl, rfl⟩
    | false => exact ⟨_, hit, rfl, rfl⟩
  refine wpAny_pyIter_enum he ⟨s1.heap.objs.size + 1, [s1.heap.objs.size + 1, s1.heap.objs.size], _, _, H1, rfl, I2, turn_enumB t k a (s1.heap.objs.size + 1) s1.heap.objs.size, ⟨⟨.none, ?_⟩, hitB, Nat.succ_ne_self _, Nat.ne_of_gt (Nat.lt_succ_of_lt hlt), Nat.ne_of_lt hlt⟩, fun b hb => ?_, q⟩
  · show IsEnum h' _ _ (k + ((0 : Nat) : Int)) _
    rw [show k + ((0 : Nat) : Int) = k by omega]
    exact he
  have e' : b = s1.heap.objs.size + 1 ∨ b = s1.heap.objs.size := by simpa using hb
  have hle : s1.heap.objs.size ≤ b := by
    rcases e' with z | z
    · rw [z]; exact Nat.le_add_right _ _
    · rw [z]; exact Nat.le_refl _
  exact I1.fpOk hle (I1.hok.fresh hle)
theorem pi_enu1 {ta : TA} {p tpos : Pos} {elts : List Expr} {kk : Nat} (hg : Gl X "enumerate") (hm : X.mg "enumerate" = none) (ha : PA X [e] ta) (hs : starEach [e] X.env = [(false, eval e X.env)]) :
    PI X (.Tuple elts kk tpos) (.Call (.Name "enumerate" p) [e] [] pos) (iEnuB X.K 0 [] ta) := by
  refine ⟨fun pins s σ H R I h => ?_⟩
  refine Call_ (ld_blt I hg hm boot_enumerate (PyProof.Rows.callWith_type1 (thn (ha.run pos pins s σ H _ I h) fun us s1 ⟨vs, H1, I1, r1, q1⟩ => ?_) hs rfl))
  obtain ⟨a, t, xs, ex, hq, q⟩ := q1
  subst ex
  cases r1 with
  | cons r rr =>
    cases rr
    cases r
    obtain ⟨its, rv, p', hlt⟩ := invB I1 hq
    cases t with
    | true => exact pd_enum_call (begins_tuple a its.toArray) p' fun h' he hit hsz hk => enu_start I1 hq q rfl he hit hsz hk
    | false => exact pd_enum_call (begins_list a its.toArray) p' fun h' he hit hsz hk => enu_start I1 hq q rfl he hit hsz hk
theorem pi_enu2 {k : Int} {ta : TA} {p tpos : Pos} {elts : List Expr} {kk : Nat} (hg : Gl X "enumerate") (hm : X.mg "enumerate" = none) (ha : PA X [e, e2] ta) (hk0 : -(2 ^ 63) ≤ k) (hk1 : k < 2 ^ 63)
    (hs : starEach [e, e2] X.env = (false, eval e X.env) :: starEach [e2] X.env) (hpl : (backTo pos (starEach [e2] X.env)).any (·.1) = false) :
    PI X (.Tuple elts kk tpos) (.Call (.Name "enumerate" p) [e, e2] [] pos) (iEnuB X.K k [.int k] ta) := by
  refine ⟨fun pins s σ H R I h => ?_⟩
  refine Call_ (ld_blt I hg hm boot_enumerate (PyProof.Rows.callWith_type1 (thn (ha.run pos pins s σ H _ I h) fun us s1 ⟨vs, H1, I1, r1, q1⟩ => ?_) hs hpl))
  obtain ⟨a, t, xs, ex, hq, q⟩ := q1
  subst ex
  cases r1 with
  | cons r rr =>
    cases rr with
    | cons r2 rr =>
      cases rr
      cases r
      obtain ⟨tk, rfl⟩ := r2
      obtain ⟨its, rv, p', hlt⟩ := invB I1 hq
      cases t with
      | true => exact enum_begins (begins_tuple a its.toArray) p' hk0 hk1 fun h' he hit hsz hk => enu_start I1 hq q rfl he hit hsz hk
      | false => exact enum_begins (begins_list a its.toArray) p' hk0 hk1 fun h' he hit hsz hk => enu_start I1 hq q rfl he hit hsz hk
/-! ### the small language -/
theorem enumL_len : ∀ (xs : List D) (k : Int), (enumL k xs).length = xs.length
  | [], _ => rfl
  | x :: xs, k => by rw [enumL, List.length_cons, List.length_cons, enumL_len xs]
theorem enumL_get : ∀ (xs : List D) (k : Int) (i : Nat) (d : D), (enumL k xs)[i]? = some d → ∃ x, xs[i]? = some x ∧ d = .tup [.int (k + (i : Nat)), x]
  | [], _, _, _, e => by simp [enumL] at e
  | x :: xs, k, 0, d, e => by
    have e : some (D.tup [.int k, x]) = some d := e
    cases e
    exact ⟨x, rfl, by simp⟩
  | x :: xs, k, i + 1, d, e => by
    have e : (enumL (k + 1) xs)[i]? = some d := e
    obtain ⟨y, h1, h2⟩ := enumL_get xs (k + 1) i d e
    exact ⟨y, h1, by rw [h2, show k + 1 + ((i : Nat) : Int) = k + ((i + 1 : Nat) : Int) by omega]⟩
theorem seqB_later {w : List Nat} {p : Addr} {d : D} {xs : List D} (q : Fz c F la (.ref p) d) (h : seqOf st d = some xs) (hw : ∀ n ∈ locsOf d, n ∈ w) {F' : Hp} {la' : List Addr} {H' : Hp} {st' : Store}
    (m : Mono F la F' la') (rs : StRel c F' la' H' st') (hk : watchOk w st st' = true) : ∃ vs, SqB c.K (isT d) H' p vs ∧ FzL c F' la' vs xs := by
  obtain ⟨g1, g2⟩ := seq_later q h hw m rs hk
  cases d with
  | tup ds =>
    cases g1
    cases g2 with
    | tup e t => exact ⟨_, sqT_mono rs.sub e, t⟩
  | lst ds =>
    cases g1
    cases g2 with
    | lst e t => exact ⟨_, .inl (.inl (rs.sub _ _ e)), t⟩
  | scr ds =>
    cases g1
    cases g2 with
    | scr e t => exact ⟨_, sqL_mono rs.sub e, t⟩
  | loc n =>
    cases g2 with
    | loc e =>
      obtain ⟨vs, h1, t⟩ := rs.get e (loc_lst g1)
      exact ⟨vs, .inl (.inl h1), t⟩
  | _ => cases g1
theorem sqB_eq {K : PySem.W.Frag} {H : Hp} {t : Bool} {p : Addr} {vs : List V} {v : V} {i : Nat} {y : V} (h : SqB K t H p vs) (hy : ∀ xs, SqB K t H p xs → xs[i]? = some y) (e : vs[i]? = some v) : y = v := by
  have := (hy vs h).symm.trans e
  cases this; rfl
theorem itD_enu {p : Addr} {t : Bool} {k : Int} {xs : List D} {w : List Nat} (L : ∀ (F' : Hp) (la' : List Addr) (H' : Hp) (st' : Store), Mono F la F' la' → StRel c F' la' H' st' → watchOk w st st' = true → ∃ vs, SqB c.K t H' p vs ∧ FzL c F' la' vs xs) :
    ItD c F la st (IteB c.K t k p) (enumL k xs) w where
  go := fun i F' la' H' st' hi m rs hk => by
    rw [enumL_len] at hi
    obtain ⟨vs, h1, t⟩ := L F' la' H' st' m rs hk
    obtain ⟨v, h2, _⟩ := t.get (List.getElem?_eq_getElem hi)
    exact ⟨vs, v, h1, h2⟩
  stop := fun F' la' H' st' m rs hk => by
    obtain ⟨vs, h1, t⟩ := L F' la' H' st' m rs hk
    exact ⟨vs, h1, by rw [enumL_len]; exact t.length⟩
  yld := fun i F' la' H' st' v H2 d e m rs hk y => by
    obtain ⟨x, e1, rfl⟩ := enumL_get xs k i d e
    obtain ⟨vs, h1, t⟩ := L F' la' H' st' m rs hk
    obtain ⟨T, u, rfl, hT, rfl, hy⟩ := y
    obtain ⟨v', h2, q⟩ := t.get e1
    have eu := sqB_eq h1 hy h2
    subst eu
    obtain ⟨x1, r1⟩ := ext_fix (o := .tup [.int (k + (i : Nat)), u]) rs hT
    exact ⟨_, x1, r1, .tup (.inl (.inl upd_same)) (.cons (.int _) (.cons (q.mono x1.mono) .nil))⟩
theorem enuM_is {k : Int} {x : D} {P : R → Store → Prop} {Y : Nat → List D → Store → Prop} (h : PostG (enuM k x st) P Y) : ∃ xs, seqOf st x = some xs ∧ P (.it (enumL k xs) (locsOf x)) st := by
  unfold enuM at h
  cases e : seqOf st x with
  | none => rw [e] at h; exact h.elim
  | some xs =>
    rw [e] at h
    have h : PostG (if lim xs.length = true then Out.ok (R.it (enumL k xs) (locsOf x)) st else .bad) P Y := h
    split at h
    · exact ⟨xs, rfl, h⟩
    · exact h.elim
theorem DI.enu1 {C : Cfg} {A : E} {p tpos : Pos} {elts : List Expr} {kk : Nat} (ft : Ft X c) (hg : Gl X "enumerate") (hm : X.mg "enumerate" = none) (ha : DE X c ek a (ev C A)) (hs : starEach [a] X.env = [(false, eval a X.env)]) :
    DI X c ek (.Tuple elts kk tpos) (.Call (.Name "enumerate" p) [a] [] pos) (ev C (.enu A 0)) := by
  obtain ⟨ta, pa, sa⟩ := ha
  refine ⟨_, pi_enu1 hg hm (pa_cons pa pa_nil hs) hs, fun σ F la H en st Q re rs h => ?_⟩
  refine sa.then_ re rs (PostG.bnd h) fun r s1 v F1 la1 H1 h1 x1 s2 q1 => ?_
  obtain ⟨xs, e1, h2⟩ := enuM_is h1
  obtain ⟨pa', vs, rfl, o, t⟩ := seqOf_is s2 q1 e1
  have L := fun F' la' H' st' (m : Mono F1 la1 F' la') (rs' : StRel c F' la' H' st') hk => seqB_later (w := locsOf r.val) q1 e1 (fun _ h => h) m rs' hk
  obtain ⟨vs', h3, _⟩ := L F1 la1 H1 s1 .refl s2 (watch_refl (locs_lt e1))
  rw [ft.K]
  exact ⟨pa', isT r.val, vs', rfl, h3, h2 _ _ _ F1 la1 H1 rfl x1 s2 (itD_enu L)⟩
theorem DI.enu2 {C : Cfg} {A : E} {k : Int} {j : Nat} {p p2 tpos : Pos} {elts : List Expr} {kk : Nat} (ft : Ft X c) (hg : Gl X "enumerate") (hm : X.mg "enumerate" = none) (ha : DE X c ek a (ev C A)) (hk0 : -(2 ^ 63) ≤ k) (hk1 : k < 2 ^ 63)
    (hs : starEach [a, .Constant (.int k) j p2] X.env = (false, eval a X.env) :: starEach [.Constant (.int k) j p2] X.env) :
    DI X c ek (.Tuple elts kk tpos) (.Call (.Name "enumerate" p) [a, .Constant (.int k) j p2] [] pos) (ev C (.enu A k)) := by
  obtain ⟨ta, pa, sa⟩ := ha
  refine ⟨_, pi_enu2 hg hm (pa_cons pa (pa_cons pe_int pa_nil) hs) hk0 hk1 hs rfl, fun σ F la H en st Q re rs h => ?_⟩
  refine sa.then_ re rs (PostG.bnd h) fun r s1 v F1 la1 H1 h1 x1 s2 q1 => ?_
  obtain ⟨xs, e1, h2⟩ := enuM_is h1
  obtain ⟨pa', vs, rfl, o, t⟩ := seqOf_is s2 q1 e1
  have L := fun F' la' H' st' (m : Mono F1 la1 F' la') (rs' : StRel c F' la' H' st') hk => seqB_later (w := locsOf r.val) q1 e1 (fun _ h => h) m rs' hk
  obtain ⟨vs', h3, _⟩ := L F1 la1 H1 s1 .refl s2 (watch_refl (locs_lt e1))
  rw [ft.K]
  exact ⟨pa', isT r.val, vs', rfl, h3, h2 _ _ _ F1 la1 H1 rfl x1 s2 (itD_enu L)⟩
theorem Src.enu {C : Cfg} {A : E} {k : Int} : Src (ev C (.enu A k)) := by
  intro en st xs w s' h
  obtain ⟨r, s1, h1, h2⟩ := bnd_ok (show bnd (ev C A en) (fun x => enuM k x.val) st = Out.ok (.it xs w) s' from h)
  unfold enuM at h2
  cases e : seqOf s1 r.val with
  | none => rw [e] at h2; cases h2
  | some ys =>
    rw [e] at h2
    have h2 : (if lim ys.length = true then Out.ok (R.it (enumL k ys) (locsOf r.val)) s1 else .bad) = .ok (.it xs w) s' := h2
    split at h2
    · rename_i hl
      cases h2
      exact ⟨locs_lt e, by rw [enumL_len]; exact lim_le hl⟩
    · cases h2
end
end PD

/-! More rules: zip, dict displays, calls with keywords. -/
namespace PD
open PySem PySem.Spec PyProof.Rows L2
section
variable {X : Cx} {c : Cn} {ek : XK} {F F' H H' : Hp} {la la' : List Addr} {st : Store} {a b e e2 : Expr} {es : List Expr} {pos : Pos}
/-! ### zip -/
theorem zipL_get : ∀ (xs ys : List D) (i : Nat) (d : D), (zipL xs ys)[i]? = some d → ∃ x y, xs[i]? = some x ∧ ys[i]? = some y ∧ d = .tup [x, y]
  | [], _, _, _, e => by simp [zipL] at e
  | _ :: _, [], _, _, e => by simp [zipL] at e
  | x :: xs, y :: ys, 0, d, e => by
    have e : some (D.tup [x, y]) = some d := e
    cases e
    exact ⟨x, y, rfl, rfl, rfl⟩
  | x :: xs, y :: ys, i + 1, d, e => zipL_get xs ys i d e
theorem zipL_len : ∀ (xs ys : List D), (zipL xs ys).length = min xs.length ys.length
  | [], _ => by simp [zipL]
  | _ :: _, [] => by simp [zipL]
  | x :: xs, y :: ys => by rw [zipL, List.length_cons, zipL_len xs ys, List.length_cons, List.length_cons]; omega
def ItzB (K : PySem.W.Frag) (t : Bool) (p q : Addr) : It := match t with
  | true => RZ.ItzT K p q
  | false => Itz K p q
theorem itzB_go {K : PySem.W.Frag} {t : Bool} {p q : Addr} {i : Nat} {H : Hp} {xs ys : List V} {x y : V} (h1 : SqB K t H p xs) (h2 : SqB K t H q ys) (h3 : xs[i]? = some x) (h4 : ys[i]? = some y) : (ItzB K t p q).go i H := by
  cases t <;> exact ⟨xs, ys, x, y, h1, h2, h3, h4⟩
theorem itzB_stop {K : PySem.W.Frag} {t : Bool} {p q : Addr} {i : Nat} {H : Hp} {xs ys : List V} (h1 : SqB K t H p xs) (h2 : SqB K t H q ys) (h3 : xs.length ≤ i ∨ ys.length ≤ i) : (ItzB K t p q).stop i H := by
  cases t <;> exact ⟨xs, ys, h1, h2, h3⟩
theorem itzB_yld {K : PySem.W.Frag} {t : Bool} {p q : Addr} {i : Nat} {H H' : Hp} {v : V} (h : (ItzB K t p q).yld i H v H') : ∃ T x y, v = .ref T ∧ H T = none ∧ H' = upd H T (.tup [x, y]) ∧ (∀ xs, SqB K t H p xs → xs[i]? = some x) ∧ ∀ ys, SqB K t H q ys → ys[i]? = some y := by
  cases t <;> exact h
theorem itD_zip {p q : Addr} {t : Bool} {xs ys : List D} {w : List Nat} (L : ∀ (F' : Hp) (la' : List Addr) (H' : Hp) (st' : Store), Mono F la F' la' → StRel c F' la' H' st' → watchOk w st st' = true → ∃ vs, SqB c.K t H' p vs ∧ FzL c F' la' vs xs)
    (M : ∀ (F' : Hp) (la' : List Addr) (H' : Hp) (st' : Store), Mono F la F' la' → StRel c F' la' H' st' → watchOk w st st' = true → ∃ vs, SqB c.K t H' q vs ∧ FzL c F' la' vs ys) : ItD c F la st (ItzB c.K t p q) (zipL xs ys) w where
  go := fun i F' la' H' st' hi m rs hk => by
    rw [zipL_len] at hi
    obtain ⟨vs, h1, r1⟩ := L F' la' H' st' m rs hk
    obtain ⟨us, h2, r2⟩ := M F' la' H' st' m rs hk
    obtain ⟨v, h3, _⟩ := r1.get (List.getElem?_eq_getElem (show i < xs.length by omega))
    obtain ⟨u, h4, _⟩ := r2.get (List.getElem?_eq_getElem (show i < ys.length by omega))
    exact itzB_go h1 h2 h3 h4
  stop := fun F' la' H' st' m rs hk => by
    obtain ⟨vs, h1, r1⟩ := L F' la' H' st' m rs hk
    obtain ⟨us, h2, r2⟩ := M F' la' H' st' m rs hk
    refine itzB_stop h1 h2 ?_
    rw [zipL_len, r1.length, r2.length]
    omega
  yld := fun i F' la' H' st' v H2 d e m rs hk y => by
    obtain ⟨x, z, e1, e2, rfl⟩ := zipL_get xs ys i d e
    obtain ⟨vs, h1, r1⟩ := L F' la' H' st' m rs hk
    obtain ⟨us, h2, r2⟩ := M F' la' H' st' m rs hk
    obtain ⟨T, u1, u2, rfl, hT, rfl, y1, y2⟩ := itzB_yld y
    obtain ⟨v1, g1, q1⟩ := r1.get e1
    obtain ⟨v2, g2, q2⟩ := r2.get e2
    have eu1 := sqB_eq h1 y1 g1
    have eu2 := sqB_eq h2 y2 g2
    subst eu1; subst eu2
    obtain ⟨x1, s1⟩ := ext_fix (o := .tup [u1, u2]) rs hT
    exact ⟨_, x1, s1, .tup (.inl (.inl upd_same)) (.cons (q1.mono x1.mono) (.cons (q2.mono x1.mono) .nil))⟩
theorem zipM_is {x y : D} {P : R → Store → Prop} {Y : Nat → List D → Store → Prop} (h : PostG (zipM false x y st) P Y) : ∃ xs ys, seqOf st x = some xs ∧ seqOf st y = some ys ∧ isT x = isT y ∧ P (.it (zipL xs ys) (locsOf x ++ locsOf y)) st := by
  unfold zipM at h
  cases e : seqOf st x with
  | none => rw [e] at h; exact h.elim
  | some xs =>
    cases e2 : seqOf st y with
    | none => rw [e, e2] at h; exact h.elim
    | some ys =>
      rw [e, e2] at h
      have h : PostG (if (false || !(isT x == isT y)) = true then .bad else if lim xs.length = true then Out.ok (R.it (zipL xs ys) (locsOf x ++ locsOf y)) st else .bad) P Y := h
      split at h
      · exact h.elim
      · rename_i n
        split at h
        · refine ⟨xs, ys, rfl, rfl, ?_, h⟩
          cases hx : isT x <;> cases hy : isT y <;> rw [hx, hy] at n <;> first
            | rfl
            | exact absurd rfl n
        · exact h.elim
theorem DI.zip {C : Cfg} {A B : E} {p tpos : Pos} {elts : List Expr} {kk : Nat} (ft : Ft X c) (hg : Gl X "zip") (hm : X.mg "zip" = none) (ha : DE X c ek a (ev C A)) (hb : DE X c ek b (ev C B))
    (hs : starEach [a, b] X.env = (false, eval a X.env) :: starEach [b] X.env) (hs2 : starEach [b] X.env = [(false, eval b X.env)]) :
    DI X c ek (.Tuple elts kk tpos) (.Call (.Name "zip" p) [a, b] [] pos) (ev C (.zip A B)) := by
  obtain ⟨ta, pa, sa⟩ := ha
  obtain ⟨tb, pb, sb⟩ := hb
  refine ⟨_, RZ.pi_zipA hg hm (pa_cons pa (pa_cons pb pa_nil hs2) hs) hs (by rw [hs2]; rfl), fun σ F la H en st Q re rs h => ?_⟩
  refine sa.then_ re rs (PostG.bnd h) fun r s1 v F1 la1 H1 h1 x1 s2 q1 => ?_
  refine sb.then_ (re.mono x1.mono) s2 (PostG.imp (PostG.bnd h1) (fun _ _ _ z => z) fun _ _ _ z => z.later x1) fun r2 s3 v2 F2 la2 H2 h2 x2 s4 q2 => ?_
  obtain ⟨xs, ys, e1, e2, ek', h3⟩ := zipM_is h2
  obtain ⟨p1, vs1, rfl, _, _⟩ := seqOf_is s4 (q1.mono x2.mono) e1
  obtain ⟨p2, vs2, rfl, _, _⟩ := seqOf_is s4 q2 e2
  have L := fun F' la' H' st' (m : Mono F2 la2 F' la') (rs' : StRel c F' la' H' st') hk => seqB_later (w := locsOf r.val ++ locsOf r2.val) (q1.mono x2.mono) e1 (fun _ h => List.mem_append.mpr (.inl h)) m rs' hk
  have M := fun F' la' H' st' (m : Mono F2 la2 F' la') (rs' : StRel c F' la' H' st') hk => seqB_later (w := locsOf r.val ++ locsOf r2.val) q2 e2 (fun _ h => List.mem_append.mpr (.inr h)) m rs' hk
  have wr : watchOk (locsOf r.val ++ locsOf r2.val) s3 s3 = true := watch_refl fun n hn => by
    rcases List.mem_append.mp hn with hn | hn
    · exact locs_lt e1 n hn
    · exact locs_lt e2 n hn
  rw [← ek'] at M
  obtain ⟨us1, g1, _⟩ := L F2 la2 H2 s3 .refl s4 wr
  obtain ⟨us2, g2, _⟩ := M F2 la2 H2 s3 .refl s4 wr
  have fin := h3 _ _ _ F2 la2 H2 rfl (x1.trans x2) s4 (itD_zip L M)
  rw [ft.K]
  refine ⟨p1, p2, us1, us2, rfl, ?_⟩
  cases ht : isT r.val with
  | true =>
    rw [ht] at g1 g2 fin
    exact .inr ⟨g1, g2, fin⟩
  | false =>
    rw [ht] at g1 g2 fin
    exact .inl ⟨g1, g2, fin⟩
theorem Src.zip {C : Cfg} {A B : E} : Src (ev C (.zip A B)) := by
  intro en st xs w s' h
  obtain ⟨r, s1, h1, h2⟩ := bnd_ok (show bnd (ev C A en) (fun x => bnd (ev C B en) fun y => zipM false x.val y.val) st = Out.ok (.it xs w) s' from h)
  obtain ⟨r2, s2, h3, h4⟩ := bnd_ok h2
  have h5 : PostG (zipM false r.val r2.val s2) (fun z s => z = .it xs w ∧ s = s' ∧ ∀ ys, seqOf s2 r.val = some ys → lim ys.length = true) (fun _ _ _ => False) := by
    rw [h4]
    refine ⟨rfl, rfl, fun ys e => ?_⟩
    unfold zipM at h4
    rw [e] at h4
    cases e2 : seqOf s2 r2.val with
    | none => rw [e2] at h4; cases h4
    | some zs =>
      rw [e2] at h4
      have h4 : (if (false || !(isT r.val == isT r2.val)) = true then .bad else if lim ys.length = true then Out.ok (R.it (zipL ys zs) (locsOf r.val ++ locsOf r2.val)) s2 else .bad) = Out.ok (.it xs w) s' := h4
      split at h4
      · cases h4
      · split at h4
        · assumption
        · cases h4
  obtain ⟨ys, zs, e1, e2, _, q1, q2, q3⟩ := zipM_is h5
  cases q1; subst q2
  refine ⟨fun n hn => ?_, ?_⟩
  · rcases List.mem_append.mp hn with hn | hn
    · exact locs_lt e1 n hn
    · exact locs_lt e2 n hn
  · rw [zipL_len]
    exact Nat.le_trans (Nat.min_le_left _ _) (lim_le (q3 ys e1))
/-! ### keywords -/
/-- values of arguments: by place, then by name -/
def DK (X : Cx) (c : Cn) (ek : XK) (es : List Expr) (kws : List Keyword) (m : En → M R) : Prop :=
  ∃ t tk, PA X es t ∧ PK X kws tk ∧ ∀ (σ : L2.St) (F : Hp) (la : List Addr) (H : Hp) (en : En) (st : Store) (Q : List V → List V → Hp → Prop), EnRel c F la σ en → StRel c F la H st →
    PostG (m en st) (fun r st' => ∀ vs zs F' la' H', Ext F la H F' la' H' → StRel c F' la' H' st' → vs.length = es.length → zs.length = kws.length → (∃ ds, r = .d (.tup ds) ∧ FzL c F' la' (vs ++ zs) ds) → Q vs zs H') (PostX c ek F la H) →
    t σ H fun vs H1 => tk σ H1 fun zs H2 => Q vs zs H2
def DKW (X : Cx) (c : Cn) (ek : XK) (kws : List Keyword) (m : En → M R) : Prop :=
  ∃ tk, PK X kws tk ∧ ∀ (σ : L2.St) (F : Hp) (la : List Addr) (H : Hp) (en : En) (st : Store) (Q : List V → Hp → Prop), EnRel c F la σ en → StRel c F la H st →
    PostG (m en st) (fun r st' => ∀ zs F' la' H', Ext F la H F' la' H' → StRel c F' la' H' st' → zs.length = kws.length → (∃ ds, r = .d (.tup ds) ∧ FzL c F' la' zs ds) → Q zs H') (PostX c ek F la H) → tk σ H Q
theorem DKW.nil {C : Cfg} : DKW X c ek [] (ev C .nil) :=
  ⟨tNil, pk_nil, fun σ F la H en st Q re rs h => h [] F la H .refl rs rfl ⟨[], rfl, .nil⟩⟩
theorem DKW.cons {C : Cfg} {A B : E} {nm : Option Str} {kpos : Pos} {kws : List Keyword} (ha : DE X c ek a (ev C A)) (hb : DKW X c ek kws (ev C B)) : DKW X c ek (⟨nm, a, kpos⟩ :: kws) (ev C (.cons A B)) := by
  obtain ⟨ta, pa, sa⟩ := ha
  obtain ⟨tk, pk, sk⟩ := hb
  refine ⟨tCons ta tk, pk_cons pa pk, fun σ F la H en st Q re rs h => ?_⟩
  refine sa.then_ re rs (PostG.bnd h) fun r s1 v F1 la1 H1 h1 x1 s2 q1 => ?_
  refine sk σ F1 la1 H1 en s1 _ (re.mono x1.mono) s2 (PostG.imp (PostG.bnd h1) (fun r2 s3 _ z zs F2 la2 H2 x2 s4 hl ⟨ds, e, t⟩ => ?_) fun _ _ _ z => z.later x1)
  subst e
  exact z (v :: zs) F2 la2 H2 (x1.trans x2) s4 (by rw [List.length_cons, List.length_cons, hl]) ⟨r.val :: ds, rfl, .cons (q1.mono x2.mono) t⟩
theorem DK.kw {m : En → M R} {kws : List Keyword} (h : DKW X c ek kws m) : DK X c ek [] kws m := by
  obtain ⟨tk, pk, sk⟩ := h
  exact ⟨tNil, tk, pa_nil, pk, fun σ F la H en st Q re rs h => sk σ F la H en st _ re rs (PostG.imp h (fun r s _ z zs F' la' H' x s' hl q => z [] zs F' la' H' x s' rfl hl q) fun _ _ _ z => z)⟩
theorem DK.cons {C : Cfg} {A B : E} {kws : List Keyword} (ha : DE X c ek a (ev C A)) (hb : DK X c ek es kws (ev C B)) (hs : starEach (a :: es) X.env = (false, eval a X.env) :: starEach es X.env) : DK X c ek (a :: es) kws (ev C (.cons A B)) := by
  obtain ⟨ta, pa, sa⟩ := ha
  obtain ⟨t, tk, pt, pk, sk⟩ := hb
  refine ⟨tCons ta t, tk, pa_cons pa pt hs, pk, fun σ F la H en st Q re rs h => ?_⟩
  refine sa.then_ re rs (PostG.bnd h) fun r s1 v F1 la1 H1 h1 x1 s2 q1 => ?_
  refine sk σ F1 la1 H1 en s1 (fun vs zs H' => Q (v :: vs) zs H') (re.mono x1.mono) s2 (PostG.imp (PostG.bnd h1) (fun r2 s3 _ z vs zs F2 la2 H2 x2 s4 hl hl2 ⟨ds, e, t⟩ => ?_) fun _ _ _ z => z.later x1)
  subst e
  exact z (v :: vs) zs F2 la2 H2 (x1.trans x2) s4 (by rw [List.length_cons, List.length_cons, hl]) hl2 ⟨r.val :: ds, rfl, .cons (q1.mono x2.mono) t⟩
/-- values in the parameters' order -/
def permV (vs : List V) (perm : List Nat) : List V := perm.map fun i => vs.getD i .non
def permU (us : List Value) (perm : List Nat) : List Value := perm.map fun i => us.getD i .none
theorem permV_vals {vs : List V} {us : List Value} (r : Vals vs us) : ∀ {perm : List Nat}, (∀ i ∈ perm, i < vs.length) → Vals (permV vs perm) (permU us perm)
  | [], _ => .nil
  | i :: perm, h => by
    have hi : i < vs.length := h i (List.mem_cons_self ..)
    obtain ⟨u, hu, ru⟩ := r.get (List.getElem?_eq_getElem hi)
    refine .cons ?_ (permV_vals r fun j hj => h j (List.mem_cons_of_mem _ hj))
    show RelV (vs.getD i .non) (us.getD i .none)
    rw [List.getD_eq_getElem?_getD, List.getD_eq_getElem?_getD, hu, List.getElem?_eq_getElem hi]
    exact ru
theorem permV_fz {vs : List V} {ds : List D} (r : FzL c F la vs ds) : ∀ {perm : List Nat}, (∀ i ∈ perm, i < vs.length) → FzL c F la (permV vs perm) (permuted ds perm)
  | [], _ => .nil
  | i :: perm, h => by
    have hi : i < ds.length := by rw [← r.length]; exact h i (List.mem_cons_self ..)
    obtain ⟨v, hv, rv⟩ := r.get (List.getElem?_eq_getElem hi)
    refine .cons ?_ (permV_fz r fun j hj => h j (List.mem_cons_of_mem _ hj))
    show Fz c F la (vs.getD i .non) (ds.getD i .non)
    rw [List.getD_eq_getElem?_getD, List.getD_eq_getElem?_getD, hv, List.getElem?_eq_getElem hi]
    exact rv
/-- no star stands in a list of arguments -/
def noS : List Expr → Env → Prop
  | [], _ => True
  | a :: es, env => starEach (a :: es) env = (false, eval a env) :: starEach es env ∧ noS es env
theorem noS_any : ∀ {es : List Expr} {env : Env} {pos : Pos}, noS es env → (backTo pos (starEach es env)).any (·.1) = false
  | [], _, _, _ => rfl
  | a :: es, env, pos, h => by
    rw [h.1]
    show (false || (backTo pos (starEach es env)).any (·.1)) = false
    rw [noS_any h.2]; rfl
section
variable {k n : Nat} {f : Addr} {fd : FuncData} {ps ks : List Str} {sp : Sp} {x : Str} {p : Pos} {perm : List Nat} {kws : List Keyword}
theorem names_of : ∀ {kws : List Keyword} {ks : List Str} {env : Env} {pos : Pos}, kws.map (·.arg) = ks.map some → (backToKw pos (keywordEach kws env)).all (·.1.isSome) = true ∧ (backToKw pos (keywordEach kws env)).filterMap (·.1) = ks ∧ (backToKw pos (keywordEach kws env)).any (·.1.isNone) = false
  | [], [], _, _, _ => ⟨rfl, rfl, rfl⟩
  | [], _ :: _, _, _, h => by cases h
  | _ :: _, [], _, _, h => by cases h
  | ⟨nm, e, kp⟩ :: kws, k :: ks, env, pos, h => by
    have h : nm :: kws.map (·.arg) = some k :: ks.map some := h
    injection h with h1 h2
    subst h1
    obtain ⟨g1, g2, g3⟩ := names_of (env := env) (pos := pos) h2
    refine ⟨?_, ?_, ?_⟩
    · show (true && (backToKw pos (keywordEach kws env)).all (·.1.isSome)) = true
      rw [g1]; rfl
    · show k :: (backToKw pos (keywordEach kws env)).filterMap (·.1) = k :: ks
      rw [g2]
    · show (false || (backToKw pos (keywordEach kws env)).any (·.1.isNone)) = false
      rw [g3]; rfl
theorem DE.callk0 {C : Cfg} {A : E} {i : Nat} (G : FnG X.prog X.w X.K X.mg X.base k f fd ps (spG c (C.call i))) (hr : Room k X.A) (ft : Ft X c) (hx : Passes (L2.CX X.prog X.w) X ek) (hg : Gl X x) (hm : X.mg x = some (.ref f)) (hk : PySem.W.keepIn X.K (.ref f) = true)
    (hb : ∀ (s : Shared) (us ws : List Value), X.K.In s.heap → us.length = 0 → ws.length = ks.length → BindsTo s fd ⟨us, ks.zip ws⟩ (ps.zip (permU (us ++ ws) perm))) (hp : ∀ i ∈ perm, i < 0 + ks.length) (ha : DKW X c ek kws (ev C A)) (hks : kws.map (·.arg) = ks.map some) (hdb : (x == ("__debug__" : Str)) = false) :
    DE X c ek (.Call (.Name x p) [] kws pos) (ev C (.callk i A ks perm)) := by
  obtain ⟨tk, pk, sk⟩ := ha
  obtain ⟨n1, n2, n3⟩ := names_of (env := X.env) (pos := pos) hks
  have hlk : kws.length = ks.length := by have := congrArg List.length hks; rwa [List.length_map, List.length_map] at this
  refine ⟨fun σ H Q => tk σ H fun zs H2 => zs.length = ks.length ∧ spG c (C.call i) (permV ([] ++ zs) perm) H2 Q ek, ⟨fun pins s σ H Q I h => ?_⟩, fun σ F la H en st Q re rs h => ?_⟩
  · refine wpAny_Call_Name_kw (ld_glob I hg hm ?_ hdb)
    refine PySem.W.callWith_KW0 (h₀ := X.base) I.ok.mod.kin hk n1 ?_ (by rw [n3]; rfl)
    refine thn (pk.run pos pins s σ H _ I h) fun ws s2 ⟨zs, H2, I2, rz, l2, q⟩ => ⟨I2.kIn, ?_⟩
    rw [n2]
    exact G.go hr ft.grd hx I2 (hb s2 [] ws I2.kIn rfl (by rw [← rz.length]; exact l2)) (permV_vals (vs := [] ++ zs) (us := [] ++ ws) rz fun j hj => by
      have := hp j hj
      rw [List.nil_append, l2]; omega) q
  · refine sk σ F la H en st _ re rs (PostG.imp (PostG.bnd h) (fun r s1 _ z zs F1 la1 H1 x1 s2 hl2 ⟨ds, e, t⟩ => ?_) fun _ _ _ z => z)
    subst e
    have hl2 : zs.length = ks.length := hl2.trans hlk
    refine ⟨hl2, F1, la1, s1, permuted ds perm, permV_fz (vs := [] ++ zs) t (fun j hj => by
      have := hp j hj
      rw [List.nil_append, hl2]; omega), s2, PostG.imp (PostG.bnd z) (fun d s3 _ w v F2 la2 H2 x2 s4 q2 => ?_) fun _ _ _ w => w.later x1⟩
    exact w v F2 la2 H2 (x1.trans x2) s4 q2
theorem DE.callk1 {C : Cfg} {A : E} {i : Nat} (G : FnG X.prog X.w X.K X.mg X.base k f fd ps (spG c (C.call i))) (hr : Room k X.A) (ft : Ft X c) (hx : Passes (L2.CX X.prog X.w) X ek) (hg : Gl X x) (hm : X.mg x = some (.ref f)) (hk : PySem.W.keepIn X.K (.ref f) = true)
    (hb : ∀ (s : Shared) (us ws : List Value), X.K.In s.heap → us.length = es.length → ws.length = ks.length → BindsTo s fd ⟨us, ks.zip ws⟩ (ps.zip (permU (us ++ ws) perm))) (hp : ∀ i ∈ perm, i < es.length + ks.length) (ha : DK X c ek es kws (ev C A)) (hks : kws.map (·.arg) = ks.map some) (hdb : (x == ("__debug__" : Str)) = false)
    (hst : noS es X.env) (hne : es ≠ []) : DE X c ek (.Call (.Name x p) es kws pos) (ev C (.callk i A ks perm)) := by
  obtain ⟨t, tk, pt, pk, sk⟩ := ha
  obtain ⟨n1, n2, n3⟩ := names_of (env := X.env) (pos := pos) hks
  have hlk : kws.length = ks.length := by have := congrArg List.length hks; rwa [List.length_map, List.length_map] at this
  refine ⟨fun σ H Q => t σ H fun vs H1 => tk σ H1 fun zs H2 => vs.length = es.length ∧ zs.length = ks.length ∧ spG c (C.call i) (permV (vs ++ zs) perm) H2 Q ek, ⟨fun pins s σ H Q I h => ?_⟩, fun σ F la H en st Q re rs h => ?_⟩
  · refine wpAny_Call_Name_kw (ld_glob I hg hm ?_ hdb)
    have fin : ∀ {us ws : List Value} {vs zs : List V} {s2 : Shared} {H2 : Hp}, Inv X pins σ H2 s2 → Vals vs us → Vals zs ws → vs.length = es.length ∧ zs.length = ks.length ∧ spG c (C.call i) (permV (vs ++ zs) perm) H2 Q ek →
        X.K.In s2.heap ∧ wpAny (model X.prog X.w) X.A (PySem.call (.ref f) us (ks.zip ws)) (EP X pins σ Q) X.xe s2 := fun {us ws vs zs s2 H2} I2 r rz q => by
      obtain ⟨l1, l2, q⟩ := q
      refine ⟨I2.kIn, G.go hr ft.grd hx I2 (hb s2 us ws I2.kIn (by rw [← r.length]; exact l1) (by rw [← rz.length]; exact l2)) (permV_vals (r.append rz) fun j hj => ?_) q⟩
      rw [List.length_append, l1, l2]
      exact hp j hj
    cases es with
    | nil => exact absurd rfl hne
    | cons a es =>
      refine PySem.W.callWith_KW (h₀ := X.base) I.ok.mod.kin hk n1 (thn (pt.run pos pins s σ H _ I h) fun us s1 ⟨vs, H1, I1, r, q⟩ => ?_) ?_ hst.1
      · refine thn (pk.run pos pins s1 σ H1 _ I1 q) fun ws s2 ⟨zs, H2, I2, rz, q2⟩ => ?_
        rw [n2]
        exact fin I2 r rz q2
      · rw [n3, noS_any hst]; rfl
  · refine sk σ F la H en st _ re rs (PostG.imp (PostG.bnd h) (fun r s1 _ z vs zs F1 la1 H1 x1 s2 hl hl2 ⟨ds, e, t⟩ => ?_) fun _ _ _ z => z)
    subst e
    have hl2 : zs.length = ks.length := hl2.trans hlk
    refine ⟨hl, hl2, F1, la1, s1, permuted ds perm, permV_fz t (fun j hj => by rw [List.length_append, hl, hl2]; exact hp j hj), s2, PostG.imp (PostG.bnd z) (fun d s3 _ w v F2 la2 H2 x2 s4 q2 => ?_) fun _ _ _ w => w.later x1⟩
    exact w v F2 la2 H2 (x1.trans x2) s4 q2
end
end
end PD

/-! More rules: dict displays. -/
namespace PD
open PySem PySem.Spec PyProof.Rows L2
def keyIs : Key → Option Expr → Bool
  | .inr s, some (.Constant (.str s') _ _) => decide (s = s')
  | .inl i, some (.Constant (.int i') _ _) => decide (i = i')
  | _, _ => false
def keysAre : List Key → List (Option Expr) → Bool
  | [], [] => true
  | k :: ks, e :: es => keyIs k e && keysAre ks es
  | _, _ => false
section
variable {X : Cx} {c : Cn} {ek : XK} {F F' H H' : Hp} {la la' : List Addr} {st : Store} {a b e e2 : Expr} {es : List Expr} {pos : Pos}
def DP (X : Cx) (c : Cn) (ek : XK) (pos : Pos) (ks : List Key) (keys : List (Option Expr)) (vals : List Expr) (m : En → M R) : Prop :=
  ∃ trs, PPs X pos keys vals trs ∧ ∀ (σ : L2.St) (F : Hp) (la : List Addr) (H : Hp) (en : En) (st : Store) (Q : List (V × V) → Hp → Prop), EnRel c F la σ en → StRel c F la H st →
    PostG (m en st) (fun r st' => ∀ zs F' la' H', Ext F la H F' la' H' → StRel c F' la' H' st' → (∃ ds, r = .d (.tup ds) ∧ FzL c F' la' zs ds) → zs.length = ks.length → Q ((ks.zip zs).map (fun kv => (kV kv.1, kv.2))) H') (PostX c ek F la H) →
      tPairs trs σ H Q
theorem DP.nil {C : Cfg} : DP X c ek pos [] [] [] (ev C .nil) :=
  ⟨[], pps_nil, fun σ F la H en st Q re rs h => h [] F la H .refl rs ⟨[], rfl, .nil⟩ rfl⟩
theorem key_pe {k : Key} {e : Option Expr} (h : keyIs k e = true) : ∃ x, e = some x ∧ PE X x (tC (kV k)) := by
  cases k with
  | inl i =>
    cases e with
    | none => cases h
    | some x =>
      cases x with
      | Constant q j p =>
        cases q with
        | int i' =>
          have e := of_decide_eq_true h
          subst e
          exact ⟨_, rfl, pe_int⟩
        | _ => cases h
      | _ => cases h
  | inr s =>
    cases e with
    | none => cases h
    | some x =>
      cases x with
      | Constant q j p =>
        cases q with
        | str i' =>
          have e := of_decide_eq_true h
          subst e
          exact ⟨_, rfl, pe_str⟩
        | _ => cases h
      | _ => cases h
theorem DP.cons {C : Cfg} {A B : E} {k : Key} {ke : Option Expr} {ks : List Key} {keys : List (Option Expr)} {vals : List Expr} (hk : keyIs k ke = true) (ha : DE X c ek a (ev C A)) (hb : DP X c ek pos ks keys vals (ev C B)) :
    DP X c ek pos (k :: ks) (ke :: keys) (a :: vals) (ev C (.cons A B)) := by
  obtain ⟨x, rfl, pk⟩ := key_pe (X := X) hk
  obtain ⟨ta, pa, sa⟩ := ha
  obtain ⟨trs, pr, sr⟩ := hb
  refine ⟨_, pps_cons pk pa pr, fun σ F la H en st Q re rs h => ?_⟩
  refine sa.then_ re rs (PostG.bnd h) fun r s1 v F1 la1 H1 h1 x1 s2 q1 => ?_
  refine sr σ F1 la1 H1 en s1 _ (re.mono x1.mono) s2 (PostG.imp (PostG.bnd h1) (fun r2 s3 _ z zs F2 la2 H2 x2 s4 ⟨ds, e, t⟩ hl => ?_) fun _ _ _ z => z.later x1)
  subst e
  exact z (v :: zs) F2 la2 H2 (x1.trans x2) s4 ⟨r.val :: ds, rfl, .cons (q1.mono x2.mono) t⟩ (by rw [List.length_cons, List.length_cons, hl])
theorem putK_new {κ : Type} [DecidableEq κ] {kvs : List (κ × V)} {k : κ} {v : V} (h : k ∉ kvs.map (·.1)) : putK kvs k v = kvs ++ [(k, v)] := by
  unfold putK
  rw [if_neg]
  intro z
  obtain ⟨kv, hm, e⟩ := List.any_eq_true.mp z
  exact h (List.mem_map.mpr ⟨kv, hm, of_decide_eq_true e⟩)
theorem mergeK_new : ∀ {more kvs : List (Key × V)}, ((kvs ++ more).map (·.1)).Nodup → mergeK kvs more = kvs ++ more
  | [], kvs, _ => by show kvs = kvs ++ []; rw [List.append_nil]
  | (k, v) :: more, kvs, h => by
    show mergeK (putK kvs k v) more = _
    have hk : k ∉ kvs.map (·.1) := by
      rw [List.map_append, List.map_cons, List.nodup_append] at h
      exact fun z => h.2.2 k z k (List.mem_cons_self ..) rfl
    rw [putK_new hk, mergeK_new (by rw [List.append_assoc]; exact h), List.append_assoc]
    rfl
theorem DE.newd {C : Cfg} {A : E} {ks : List Key} {keys : List (Option Expr)} {vals : List Expr} (h : DP X c ek pos ks keys vals (ev C A)) (hk : keysAre ks keys = true) (hn : ks.Nodup) (hl : keys.length = vals.length) (h0 : keys ≠ []) (h15 : keys.length ≤ 15) :
    DE X c ek (.Dict keys vals pos) (ev C (.newd ks A)) := by
  obtain ⟨trs, pr, sr⟩ := h
  have all : ∀ {ks : List Key} {keys : List (Option Expr)}, keysAre ks keys = true → keys.all (·.isSome) = true ∧ ks.length = keys.length := by
    intro ks
    induction ks with
    | nil => intro keys h; cases keys with
      | nil => exact ⟨rfl, rfl⟩
      | cons _ _ => cases h
    | cons k ks ih => intro keys h; cases keys with
      | nil => cases h
      | cons e keys =>
        have h : (keyIs k e && keysAre ks keys) = true := h
        rw [Bool.and_eq_true] at h
        obtain ⟨i1, i2⟩ := ih h.2
        obtain ⟨x, rfl, _⟩ := key_pe (X := X) h.1
        exact ⟨by show (true && keys.all (·.isSome)) = true; rw [i1]; rfl, by rw [List.length_cons, List.length_cons, i2]⟩
  obtain ⟨a1, a2⟩ := all hk
  refine ⟨tDisp trs, pe_disp pr a1 hl h0 h15, fun σ F la H en st Q re rs hp p np => ?_⟩
  obtain ⟨x0, r0⟩ := ext_new (o := .dK []) rs np
  refine sr σ F la (upd H p (.dK [])) en st _ re r0 (PostG.imp (PostG.bnd hp) (fun r s1 _ z zs F1 la1 H1 x1 s2 ⟨ds, e, t⟩ hz => ?_) fun _ _ _ z => z.later x0)
  subst e
  have pF : F p = none := by
    cases e : F p with
    | none => rfl
    | some u => rw [rs.sub p u e] at np; cases np
  have pl : p ∉ la := fun z => rs.there z np
  have keep : H1 p = some (.dK []) := x1.keep p _ upd_same pl
  have pF1 : F1 p = none := by
    cases e : F1 p with
    | none => rfl
    | some u =>
      rcases x1.newF p u e with z | z
      · rw [pF] at z; cases z
      · rw [upd_same] at z; cases z
  have pl1 : p ∉ la1 := fun z => by
    rcases x1.newL p z with w | w
    · exact pl w
    · rw [upd_same] at w; cases w
  refine ⟨keep, ks.zip zs, rfl, by rw [List.length_zip]; omega, ?_⟩
  rw [mergeK_new (by
    rw [List.nil_append, List.map_fst_zip (by omega)]
    exact hn), List.nil_append]
  have z : PostE c ek F la H Q (if ds.length = ks.length then .ok (.d (.loc s1.length)) (s1 ++ [.dct ks ds]) else .bad) := z
  rw [if_pos (by rw [← t.length, hz])] at z
  have s3 : StRel c F1 la1 (upd H1 p (.dK (ks.zip zs))) s1 := by
    refine ⟨s2.len, s2.nd, s2.free, fun a o e => ?_, fun n a y h1 h2 => ?_⟩
    · rw [upd_ne (fun w => by rw [w, pF1] at e; cases e)]
      exact s2.sub a o e
    · refine (s2.at_ n a y h1 h2).mono .refl fun o e => ?_
      rw [upd_ne (fun w => pl1 (by rw [← w]; exact List.mem_of_getElem? h1))]
      exact e
  obtain ⟨s4, m⟩ := cell_new (x := .dct ks ds) s3 pl1 pF1 ⟨zs, upd_same, hz.symm, t⟩
  have xx := x0.trans x1
  refine z (.ref p) F1 (la1 ++ [p]) _ ⟨xx.mono.trans m, fun a o e n => ?_, fun a e => ?_, fun a o e => xx.newF a o e, fun a ha => ?_⟩ s4 (.loc (by rw [← s2.len, List.getElem?_append_right (Nat.le_refl _), Nat.sub_self]; rfl))
  · rw [upd_ne (fun w => by rw [w, np] at e; cases e)]
    exact xx.keep a o e n
  · by_cases w : a = p
    · rw [w]; exact absurd np (by rw [← w]; exact e)
    · rw [upd_ne w]; exact xx.stay a e
  · rcases List.mem_append.mp ha with ha | ha
    · exact xx.newL a ha
    · rw [List.mem_singleton.mp ha]; exact .inr np
end
end PD

/-! More rules: a star in a display. -/
namespace PD
open PySem PySem.Spec PyProof.Rows L2
section
variable {X : Cx} {c : Cn} {ek : XK} {a : Expr} {es : List Expr} {p : Pos} {F : Hp} {la : List Addr} {H : Hp}
theorem DA.star {C : Cfg} {A B : E} (hK : X.K = c.K) (ha : DE X c ek a (ev C A)) (hb : DA X c ek es (ev C B)) : DA X c ek (.Starred a p :: es) (ev C (.star A B)) := by
  obtain ⟨ta, pa, sa⟩ := ha
  obtain ⟨tb, pb, sb⟩ := hb
  refine ⟨StX.tStar X.K ta tb, StX.pa_star pa pb, fun σ F la H en st Q re rs h => ?_⟩
  refine sa.then_ re rs (PostG.bnd h) fun r s1 v F1 la1 H1 h1 x1 s2 q1 => ?_
  cases e : seqOf s1 r.val with
  | none =>
    rw [e] at h1
    exact h1.elim
  | some xs =>
    rw [e] at h1
    obtain ⟨q, vs, rfl, hs, fz⟩ := seqOf_is s2 q1 e
    refine ⟨q, vs, rfl, by rw [hK]; exact hs, ?_⟩
    refine sb.then_ (re.mono x1.mono) s2 (PostG.imp (PostG.bnd h1) (fun _ _ _ z => z) fun _ _ _ z => z.later x1) fun ds s3 ws F2 la2 H2 h2 x2 s4 q2 => ?_
    by_cases hl : lim (xs.length + ds.length) = true
    · rw [show (R.d (D.tup ds)).val.items = ds from rfl, if_pos hl] at h2
      exact h2 (vs ++ ws) F2 la2 H2 (x1.trans x2) s4 ⟨xs ++ ds, rfl, (fz.mono x2.mono).append q2⟩
    · rw [show (R.d (D.tup ds)).val.items = ds from rfl, if_neg hl] at h2
      exact h2.elim
end
end PD

/-! The checker: my text against the program's, and what its yes means. -/
namespace PD
open PySem PySem.Spec PyProof.Rows L2

/-- what the module's names mean -/
structure Gb where
  fns : List (Str × Nat) := []
  cons : List (Str × D) := []
  bis : List Str := []
  kbs : List (Nat × Nat × List Str × List Nat) := []
def visB (sc : Scope) (x : Str) : Bool := match sc.names.lookup x with
  | some .local => true
  | some .cell => true
  | some .free => true
  | _ => false
def glB (sc : Scope) (x : Str) : Bool := decide (sc.names.lookup x = some .globalImplicit) && decide (x ≠ ("__debug__" : Str))
def noStar : List Expr → Bool
  | [] => true
  | .Starred _ _ :: _ => false
  | _ :: es => noStar es
def binO : BOp → Operator
  | .add => .Add
  | .sub => .Sub
  | .mul => .Mult
  | .fdiv => .FloorDiv
  | .mod => .Mod
  | .pow => .Pow
def cmpO : COp → Option CmpOp
  | .eq => some .Eq
  | .ne => some .NotEq
  | .lt => some .Lt
  | .le => some .LtE
  | .gt => some .Gt
  | .ge => some .GtE
  | .is => some .Is
  | .isn => some .IsNot
  | _ => none
def cstB : D → Const → Bool
  | .non, .none => true
  | .bl a, .bool b => a == b
  | .int a, .int b => decide (a = b)
  | .str a, .str b => decide (a = b)
  | _, _ => false
def biN : Bi → String
  | .len => "len"
  | .tuple => "tuple"
  | .list => "list"
  | .int => "int"
  | .str => "str"
  | .repr => "repr"
  | .sum => "sum"
  | .max => "max"
  | .min => "min"
  | .abs => "abs"
  | .all => "all"
  | .any => "any"
  | .sorted => "sorted"
def mtN : Mt → String
  | .append => "append"
  | .extend => "extend"
  | .pop => "pop"
  | .insert => "insert"
  | .join => "join"
  | .split => "split"
  | .get => "get"
  | .index => "index"
  | .count => "count"
  | .upper => "upper"
  | .replace => "replace"
def biOk : Bi → Bool
  | .str => false
  | .sorted => false
  | _ => true
def mtOk : Mt → Nat → Bool
  | .append, 1 => true
  | .extend, 1 => true
  | .pop, 0 => true
  | _, _ => false
def prN : Pr → Option String
  | .int => some "int"
  | .bool => some "bool"
  | .str => some "str"
  | .tuple => some "tuple"
  | .list => some "list"
  | .dict => some "dict"
  | .none => none
def plainB : Expr → Bool
  | .Slice _ _ _ _ => false
  | _ => true
def noCall : Expr → Bool
  | .Call _ _ _ _ => false
  | _ => true
def noSet : Expr → Bool
  | .Set _ _ _ => false
  | _ => true
def isTest : Expr → Bool
  | .UnaryOp .Not _ _ => false
  | .BoolOp _ _ _ => false
  | .IfExp _ _ _ _ => false
  | .Compare _ _ _ _ => false
  | .NamedExpr _ _ _ => false
  | _ => true
def ownS (N : List Str) (own : List Nat) : List (Str × Nat) := own.map fun i => (N.getD i "", i)
/-- a target of names: its places; fn: names whose cells were made here -/
def nmB (N : List Str) (sc : Scope) (cells : Str → Bool) (i : Nat) : Expr → Bool
  | .Name x _ => decide (N[i]? = some x) && (match sc.names.lookup x with
    | some .local => true
    | some .cell => cells x
    | _ => false)
  | _ => false
def nmsB (N : List Str) (sc : Scope) (cells : Str → Bool) : List Nat → List Expr → Bool
  | [], [] => true
  | i :: is, e :: es => nmB N sc cells i e && nmsB N sc cells is es
  | _, _ => false
def tgB (N : List Str) (sc : Scope) (cells : Str → Bool) : Tg → Expr → Bool
  | .nm i, e => nmB N sc cells i e
  | .tp is, .Tuple es _ _ => nmsB N sc cells is es
  | _, _ => false
def tgIn (own : List Nat) : Tg → Bool
  | .nm i => own.contains i
  | .tp is => is.all own.contains

def tyB (t : Ty) (x : Str) : Bool := match t with
  | .pr n => (match prN n with
    | some y => decide (x = Str.ofString y)
    | none => false)
  | _ => false
def ifsB (cond : E) (f : Expr → Bool) (ifs : List Expr) : Bool := match ifs with
  | [] => (match cond with
    | .cst (.bl true) => true
    | _ => false)
  | [c] => f c
  | _ => false
mutual
def chkE (g : Gb) (N : List Str) : E → Scope → Expr → Bool
  | .var i, sc, e => match e with
    | .Name x _ => decide (N[i]? = some x) && visB sc x && decide (x ≠ ("__debug__" : Str)) && decide (x ≠ ("__classdict__" : Str))
    | _ => false
  | .cst d, _, e => match e with
    | .Constant k _ _ => cstB d k
    | _ => false
  | .glo x d, sc, e => match e with
    | .Name y _ => decide (x = y) && glB sc x && (match g.cons.lookup x with
      | some d' => D.beq d d'
      | none => false)
    | _ => false
  | .tup A, sc, e => match e with
    | .Tuple es _ _ => chkS g N A sc es
    | _ => false
  | .lst A, sc, e => match e with
    | .List es _ => chkS g N A sc es
    | _ => false
  | .bin k A B, sc, e => match e with
    | .BinOp a o b _ => decide (binO k = o) && chkE g N A sc a && chkE g N B sc b
    | _ => false
  | .neg A, sc, e => match e with
    | .UnaryOp .USub a _ => chkE g N A sc a
    | _ => false
  | .cmp k A B, sc, e => match e with
    | .Compare a [o] [b] _ => decide (cmpO k = some o) && chkE g N A sc a && chkE g N B sc b
    | _ => false
  | .chn k k' A B G, sc, e => match e with
    | .Compare a [o, o'] [b, c] _ => decide (cmpO k = some o) && decide (cmpO k' = some o') && chkE g N A sc a && chkE g N B sc b && chkE g N G sc c
    | _ => false
  | .and A B, sc, e => match e with
    | .BoolOp .And (a :: b :: es) _ => chkE g N A sc a && chkW g N .And B sc (b :: es)
    | _ => false
  | .or A B, sc, e => match e with
    | .BoolOp .Or (a :: b :: es) _ => chkE g N A sc a && chkW g N .Or B sc (b :: es)
    | _ => false
  | .not A, sc, e => match e with
    | .UnaryOp .Not a _ => chkE g N A sc a
    | _ => false
  | .ite G A B, sc, e => match e with
    | .IfExp c a b _ => chkE g N G sc c && chkE g N A sc a && chkE g N B sc b
    | _ => false
  | .idx A I, sc, e => match e with
    | .Subscript a b _ => plainB b && chkE g N A sc a && chkE g N I sc b
    | _ => false
  | .key A k, sc, e => match e with
    | .Subscript a (.Constant (.str k') _ _) _ => decide (k = k') && chkE g N A sc a
    | _ => false
  | .slc A l L h G, sc, e => match e with
    | .Subscript a (.Slice lo hi none _) _ => chkE g N A sc a && (match l, lo with
        | false, none => (match L with
          | .nil => true
          | _ => false)
        | true, some lo => chkE g N L sc lo
        | _, _ => false) && (match h, hi with
        | false, none => (match G with
          | .nil => true
          | _ => false)
        | true, some hi => chkE g N G sc hi
        | _, _ => false)
    | _ => false
  | .call f A, sc, e => match e with
    | .Call (.Name x _) (a :: es) [] _ => glB sc x && decide (g.fns.lookup x = some f) && noStar (a :: es) && chkL g N A sc (a :: es)
    | _ => false
  | .bi b A, sc, e => match e with
    | .Call (.Name x _) (a :: es) [] _ => glB sc x && decide (x = Str.ofString (biN b)) && g.bis.contains x && noStar (a :: es) && biOk b && chkL g N A sc (a :: es)
    | _ => false
  | .mth m A B, sc, e => match e with
    | .Call (.Attribute a name apos) es [] pos => decide (name = Str.ofString (mtN m)) && noCall a && mtOk m es.length && (apos.endLine == pos.line) && noStar es && chkE g N A sc a && chkL g N B sc es
    | _ => false
  | .comp B T G cond own, sc, e => match e with
    | .ListComp elt [⟨tg, iter, ifs, n⟩] scope _ => decide (n = 0) && chkI g N G sc tg iter && noSet iter && blkC N sc scope (ownS N own) && tgB N (relS scope sc) (fun x => scope.names.lookup x == some .cell) T tg && tgIn own T &&
        chkE g N B (relS scope sc) elt && ifsB cond (chkE g N cond (relS scope sc)) ifs
    | _ => false
  | .rev A, sc, e => match e with
    | .Subscript a (.Slice none none (some (.UnaryOp .USub (.Constant (.int i) _ _) _)) _) _ => decide (i = 1) && chkE g N A sc a
    | _ => false
  | .newd ks A, sc, e => match e with
    | .Dict keys vals _ => keysAre ks keys && decide ks.Nodup && decide (keys.length = vals.length) && !keys.isEmpty && decide (keys.length ≤ 15) && chkL g N A sc vals
    | _ => false
  | .callk f A ks perm, sc, e => match e with
    | .Call (.Name x _) es kws _ => glB sc x && decide (g.fns.lookup x = some f) && noStar es && g.kbs.contains (f, es.length, ks, perm) && decide (kws.map (·.arg) = ks.map some) && perm.all (fun i => decide (i < es.length + ks.length)) && chkL g N A sc (es ++ kws.map (·.value))
    | _ => false
  | .newl A, sc, e => isTest e && chkE g N A sc e
  | .isi A t, sc, e => match e with
    | .Call (.Name f _) [a, .Name x _] [] _ => decide (f = ("isinstance" : Str)) && glB sc f && g.bis.contains f && glB sc x && g.bis.contains x && noStar [a] && tyB t x && chkE g N A sc a
    | _ => false
  | _, _, _ => false
def chkL (g : Gb) (N : List Str) : E → Scope → List Expr → Bool
  | .nil, _, es => match es with
    | [] => true
    | _ => false
  | .cons A B, sc, es => match es with
    | a :: r => noStar [a] && chkE g N A sc a && chkL g N B sc r
    | [] => false
  | _, _, _ => false
/-- items of a display: stars may stand there -/
def chkS (g : Gb) (N : List Str) : E → Scope → List Expr → Bool
  | .nil, _, es => match es with
    | [] => true
    | _ => false
  | .cons A B, sc, es => match es with
    | a :: r => noStar [a] && chkE g N A sc a && chkS g N B sc r
    | [] => false
  | .star A B, sc, es => match es with
    | .Starred a _ :: r => chkE g N A sc a && chkS g N B sc r
    | _ => false
  | _, _, _ => false
/-- the tail of an and, of an or -/
def chkW (g : Gb) (N : List Str) (o : BoolOp) : E → Scope → List Expr → Bool
  | .and A B, sc, es => match es with
    | a :: b :: r => decide (o = .And) && chkE g N A sc a && chkW g N o B sc (b :: r)
    | _ => false
  | .or A B, sc, es => match es with
    | a :: b :: r => decide (o = .Or) && chkE g N A sc a && chkW g N o B sc (b :: r)
    | _ => false
  | .one A, sc, es => match es with
    | [a] => chkE g N A sc a
    | _ => false
  | _, _, _ => false
def chkI (g : Gb) (N : List Str) : E → Scope → Expr → Expr → Bool
  | .itv A, sc, tg, e => chkE g N A sc e
  | .rng A, sc, tg, e => match e with
    | .Call (.Name x _) es [] _ => decide (x = ("range" : Str)) && glB sc x && g.bis.contains x && noStar es && (decide (es.length = 1) || decide (es.length = 2)) && chkL g N A sc es
    | _ => false
  | .enu A k, sc, tg, e => match tg, e with
    | .Tuple _ _ _, .Call (.Name x _) [a] [] _ => decide (x = ("enumerate" : Str)) && glB sc x && g.bis.contains x && noStar [a] && decide (k = 0) && chkE g N A sc a
    | .Tuple _ _ _, .Call (.Name x _) [a, .Constant (.int j) _ _] [] _ => decide (x = ("enumerate" : Str)) && glB sc x && g.bis.contains x && noStar [a] && decide (k = j) && smallI k && chkE g N A sc a
    | _, _ => false
  | .zip A B, sc, tg, e => match tg, e with
    | .Tuple _ _ _, .Call (.Name x _) [a, b] [] _ => decide (x = ("zip" : Str)) && glB sc x && g.bis.contains x && noStar [a, b] && chkE g N A sc a && chkE g N B sc b
    | _, _ => false
  | _, _, _, _ => false
end

example (g : Gb) (N : List Str) (A : E) (sc : Scope) (a : Expr) (p : Pos) : chkE g N (.not A) sc (.UnaryOp .Not a p) = chkE g N A sc a := rfl
end PD

/-! The checker's yes: expressions. -/
namespace PD
open PySem PySem.Spec PyProof.Rows L2

/-- a def of the module by its name -/
def FnAt (g : Gb) (c : Cn) (X : Cx) (k : Nat) (C : Cfg) (x : Str) (i : Nat) : Prop :=
  ∃ (f : Addr) (fd : FuncData) (ps : List Str), X.mg x = some (.ref f) ∧ PySem.W.keepIn X.K (.ref f) = true ∧ FnG X.prog X.w X.K X.mg X.base k f fd ps (spG c (C.call i)) ∧
    (∀ (s : Shared) (us : List Value), X.K.In s.heap → us.length = ps.length → BindsTo s fd ⟨us, []⟩ (ps.zip us)) ∧
    ∀ (n : Nat) (ks : List Str) (perm : List Nat), (i, n, ks, perm) ∈ g.kbs → ∀ (s : Shared) (us ws : List Value), X.K.In s.heap → us.length = n → ws.length = ks.length → BindsTo s fd ⟨us, ks.zip ws⟩ (ps.zip (permU (us ++ ws) perm))
/-- what is known where code runs -/
structure Ctx (g : Gb) (N : List Str) (C : Cfg) (c : Cn) (k : Nat) (X : Cx) (sc : Scope) (ek : XK) : Prop where
  ft : Ft X c
  N : X.N = N
  sc : X.env.scope = sc
  room : Room k X.A
  pass : Passes (L2.CX X.prog X.w) X ek
  fns : ∀ x i, g.fns.lookup x = some i → FnAt g c X k C x i
  bis : ∀ x, g.bis.contains x = true → X.mg x = none
  cons : ∀ x d, g.cons.lookup x = some d → ∃ u v, X.mg x = some u ∧ RelV v u ∧ ∀ F la, Fz c F la v d
section
variable {g : Gb} {N : List Str} {C : Cfg} {c : Cn} {k : Nat} {X : Cx} {sc : Scope} {ek : XK} {pos : Pos} {e a b : Expr} {es : List Expr}
theorem Ctx.blk (h : Ctx g N C c k X sc ek) (s : Shared) (H : Hp) (scope : Scope) (C' : Addr) (cl : List (Str × Addr)) (fp : List Addr) :
    Ctx g N C c k (X.blk s H scope (compEnvC scope cl C' X.env) fp) (relS scope sc) E0 where
  ft := ⟨h.ft.K, h.ft.calm, h.ft.nd, h.ft.un, h.ft.grd⟩
  N := h.N
  sc := by
    show relS scope X.env.scope = relS scope sc
    rw [h.sc]
  room := h.room
  pass := passL
  fns := h.fns
  bis := h.bis
  cons := h.cons
theorem gl_of (h : Ctx g N C c k X sc ek) {x : Str} (q : glB sc x = true) : Gl X x ∧ (x == ("__debug__" : Str)) = false := by
  unfold glB at q
  rw [Bool.and_eq_true] at q
  refine ⟨?_, beq_eq_false_iff_ne.mpr (of_decide_eq_true q.2)⟩
  show X.env.scope.names.lookup x = some .globalImplicit
  rw [h.sc]
  exact of_decide_eq_true q.1
theorem vis_of (h : Ctx g N C c k X sc ek) {x : Str} (q : visB sc x = true) : Vis X.env.scope x := by
  rw [h.sc]
  unfold visB at q
  cases e : sc.names.lookup x with
  | none => rw [e] at q; cases q
  | some o =>
    cases o with
    | «local» => exact .inl e
    | cell => exact .inr (.inl e)
    | free => exact .inr (.inr e)
    | globalExplicit => rw [e] at q; cases q
    | globalImplicit => rw [e] at q; cases q
theorem star_cons {env : Env} (h : noStar (a :: es) = true) : starEach (a :: es) env = (false, eval a env) :: starEach es env ∧ noStar es = true := by
  cases a <;> first
    | exact ⟨rfl, h⟩
    | cases h
theorem star_any {env : Env} : ∀ {es : List Expr}, noStar es = true → (backTo pos (starEach es env)).any (·.1) = false
  | [], _ => rfl
  | a :: es, h => by
    obtain ⟨h1, h2⟩ := star_cons (env := env) h
    rw [h1]
    show (false || (backTo pos (starEach es env)).any (·.1)) = false
    rw [star_any h2]; rfl
theorem star_all {env : Env} : ∀ {es : List Expr}, noStar es = true → (backTo pos (starEach es env)).all (fun x => !x.1) = true
  | [], _ => rfl
  | a :: es, h => by
    obtain ⟨h1, h2⟩ := star_cons (env := env) h
    rw [h1]
    show (!false && (backTo pos (starEach es env)).all (fun x => !x.1)) = true
    rw [star_all h2]; rfl
theorem noS_of : ∀ {es : List Expr} {env : Env}, noStar es = true → noS es env
  | [], _, _ => trivial
  | a :: es, env, h => by
    obtain ⟨h1, h2⟩ := star_cons (env := env) h
    exact ⟨h1, noS_of h2⟩
theorem plain_ix (h : plainB b = true) : PlainIx b := by
  intro o i
  cases b <;> first
    | rfl
    | cases h
theorem base_of {env : Env} {x : Str} (h : noCall a = true) : attributeBase a x env (eval a env) = eval a env := by
  cases a <;> first
    | rfl
    | cases h
theorem set_of {env : Env} {v : Value} (h : noSet a = true) : foldedSetIterable a env v = pure v := by
  cases a <;> first
    | rfl
    | cases h
theorem is_test (h : isTest a = true) (env : Env) (whole : Sem Value) : isTrue a env whole = (do let v ← whole; standAt a.pos; holding [v] (truthy v)) := by
  cases a <;> first
    | rfl
    | cases h
    | (rename_i o _ _; cases o <;> first
        | rfl
        | cases h)
theorem DE.both (h : Ctx g N C c k X sc ek) {A : E} (d : DE X c ek e (ev C A)) (t : isTest e = true) : DE X c ek e (ev C A) ∧ DT X c ek e (tev C A) := ⟨d, DT.val h.ft d (is_test t _)⟩
theorem pg_of (h : Ctx g N C c k X sc ek) (cells : Str → Bool) (hc : ∀ x, cells x = true → X.fn x = true) : ∀ {i : Nat} {e : Expr}, nmB N sc cells i e = true → PG X e (gName i)
  | i, .Name x p, q => by
    have q : (decide (N[i]? = some x) && (match sc.names.lookup x with
      | some .local => true
      | some .cell => cells x
      | _ => false)) = true := q
    rw [Bool.and_eq_true] at q
    obtain ⟨q1, q2⟩ := q
    have hi : X.N[i]? = some x := by rw [h.N]; exact of_decide_eq_true q1
    cases e1 : sc.names.lookup x with
    | none => rw [e1] at q2; cases q2
    | some o =>
      rw [e1] at q2
      have e2 : X.env.scope.names.lookup x = some o := by rw [h.sc]; exact e1
      cases o with
      | «local» => exact pg_name h.ft.nd hi (.inl e2) (.inr e2)
      | cell => exact pg_name h.ft.nd hi (.inr e2) (.inl (hc x q2))
      | free => cases q2
      | globalExplicit => cases q2
      | globalImplicit => cases q2
theorem pgs_of (h : Ctx g N C c k X sc ek) (cells : Str → Bool) (hc : ∀ x, cells x = true → X.fn x = true) : ∀ {is : List Nat} {es : List Expr}, nmsB N sc cells is es = true →
    PGs X es (gNames is) ∧ (assignEach es X.env).length = is.length ∧ (assignEach es X.env).findIdx? (·.1) = none
  | [], [], _ => ⟨pgs_nil, rfl, rfl⟩
  | i :: is, e :: es, q => by
    have q : (nmB N sc cells i e && nmsB N sc cells is es) = true := q
    rw [Bool.and_eq_true] at q
    obtain ⟨h1, h2, h3⟩ := pgs_of h cells hc q.2
    have pg := pg_of h cells hc q.1
    cases e with
    | Name x p =>
      refine ⟨pgs_cons pg h1 rfl, ?_, ?_⟩
      · show (assignEach es X.env).length + 1 = is.length + 1
        rw [h2]
      · show ((false, assign (.Name x p) X.env) :: assignEach es X.env).findIdx? (·.1) = none
        rw [List.findIdx?_cons, h3]; rfl
    | _ => exact absurd q.1 (by intro z; cases z)
def gOf (c : Cn) (T : Tg) : TG := match T with
  | .nm i => gName i
  | .tp is => gTup c.K is.length (gNames is)
theorem sg_of {T : Tg} {own : List Nat} (ho : tgIn own T = true) : SG c (gOf c T) T own := by
  cases T with
  | nm i => exact SG.name (List.contains_iff_mem.mp ho)
  | tp is => exact SG.tup fun i hi => List.contains_iff_mem.mp (List.all_eq_true.mp ho i hi)
theorem tg_of (h : Ctx g N C c k X sc ek) (cells : Str → Bool) (hc : ∀ x, cells x = true → X.fn x = true) {T : Tg} {own : List Nat} (ho : tgIn own T = true) (q : tgB N sc cells T e = true) :
    PG X e (gOf c T) ∧ SG c (gOf c T) T own := by
  cases T with
  | nm i => exact ⟨pg_of h cells hc q, SG.name (List.contains_iff_mem.mp ho)⟩
  | tp is =>
    cases e with
    | Tuple es j p =>
      obtain ⟨h1, h2, h3⟩ := pgs_of h cells hc q
      refine ⟨?_, SG.tup fun i hi => List.contains_iff_mem.mp (List.all_eq_true.mp ho i hi)⟩
      have := pg_tup (pos := p) (k := j) h.ft.calm h1 h2 h3
      rw [h.ft.K] at this
      exact this
    | _ => exact absurd q (by intro z; cases z)
/-! ### the built-in functions -/
theorem bi_of (h : Ctx g N C c k X sc ek) {A : E} {b : Bi} {x : Str} {p : Pos} (hx : x = Str.ofString (biN b)) (hg : glB sc x = true) (hm : g.bis.contains x = true) (hst : noStar (a :: es) = true) (ha : DA X c ek (a :: es) (ev C A)) (hb : b ≠ .str) (hb' : b ≠ .sorted) :
    DE X c ek (.Call (.Name x p) (a :: es) [] pos) (ev C (.bi b A)) := by
  obtain ⟨g1, g2⟩ := gl_of h hg
  have m := h.bis x hm
  obtain ⟨s1, s2⟩ := star_cons (env := X.env) hst
  have s3 := star_any (pos := pos) (env := X.env) s2
  subst hx
  have hK := h.ft.K
  cases b with
  | len => exact DE.biB call_len_seq (by rw [hK]; exact callS_len) g1 m (by decide +kernel) ha (by decide) g2 s1 s3
  | tuple => exact DE.biT call_tuple_of (by rw [hK]; exact callS_tuple) g1 m (by decide +kernel) ha (by decide) g2 s1 s3
  | list => exact DE.biT call_list_of (by rw [hK]; exact callS_list) g1 m (by decide +kernel) ha (by decide) g2 s1 s3
  | int => exact DE.biT call_int1 callS_int g1 m (by decide +kernel) ha (by decide) g2 s1 s3
  | repr => exact DE.biB (call_repr h.ft.un h.ft.grd) (by rw [hK]; exact callS_repr) g1 m (by decide +kernel) ha (by decide) g2 s1 s3
  | sum => exact DE.biB (cr_sumA h.ft.calm) (by rw [hK]; exact callS_sum) g1 m (by decide +kernel) ha (by decide) g2 s1 s3
  | max => exact DE.biB (r := rMaxA X.K) (CallR.or (cr_max h.ft.calm) (call_max2 h.ft.calm)) (by rw [hK]; exact callS_max) g1 m (by decide +kernel) ha (by decide) g2 s1 s3
  | min => exact DE.biB (r := rMinA X.K) (CallR.or (cr_min h.ft.calm) (call_min2 h.ft.calm)) (by rw [hK]; exact callS_min) g1 m (by decide +kernel) ha (by decide) g2 s1 s3
  | abs => exact DE.biB call_abs callS_abs g1 m (by decide +kernel) ha (by decide) g2 s1 s3
  | all => exact DE.biB (cr_all h.ft.calm) (by rw [hK]; exact callS_all) g1 m (by decide +kernel) ha (by decide) g2 s1 s3
  | any => exact DE.biB (cr_any h.ft.calm) (by rw [hK]; exact callS_any) g1 m (by decide +kernel) ha (by decide) g2 s1 s3
  | str => exact absurd rfl hb
  | sorted => exact absurd rfl hb'
theorem few_of {env : Env} (hst : noStar (a :: es) = true) (hl : (a :: es).length < 20) :
    ((backTo pos (starEach (a :: es) env)).all (fun x => !x.1) && (backToKw pos (keywordEach [] env)).all (fun x => x.1.isSome) && decide ((a :: es).length + ([] : List Keyword).length + (if ([] : List Keyword).isEmpty then 0 else 1) < 30)) = true := by
  rw [star_all hst, decide_eq_true (by show (a :: es).length + 0 + 0 < 30; omega)]
  rfl
theorem mth_of (h : Ctx g N C c k X sc ek) {A B : E} {m : Mt} {name : Str} {apos : Pos} (hx : name = Str.ofString (mtN m)) (hc : noCall a = true) (hl : mtOk m es.length = true) (hline : (apos.endLine == pos.line) = true) (hst : noStar es = true)
    (da : DE X c ek a (ev C A)) (db : DA X c ek es (ev C B)) (hB : es = [] → B = .nil) : DE X c ek (.Call (.Attribute a name apos) es [] pos) (ev C (.mth m A B)) := by
  subst hx
  cases es with
  | nil =>
    have hB := hB rfl
    subst hB
    cases m <;> first
      | exact DE.mth0 h.ft PySem.F.plainAttrs_list PySem.F.slot_list_pop PySem.F.type_list_pop mt_pop mthS_pop da (base_of hc) hline
      | cases hl
  | cons b r =>
    cases r with
    | nil =>
      obtain ⟨s1, s2⟩ := star_cons (env := X.env) hst
      cases m
      case append => exact DE.mth h.ft PySem.F.plainAttrs_list PySem.F.slot_list_append PySem.F.type_list_append mt_append mthS_append da db (base_of hc) (few_of hst (by simp)) hline s1 (star_any s2)
      all_goals first
        | exact DE.mth h.ft PySem.F.plainAttrs_list PySem.F.slot_list_append PySem.F.type_list_append mt_append mthS_append da db (base_of hc) (few_of hst (by simp)) hline s1 (star_any s2)
        | exact DE.mth h.ft PySem.F.plainAttrs_list PySem.F.slot_list_extend PySem.F.type_list_extend mt_extend mthS_extend da db (base_of hc) (few_of hst (by simp)) hline s1 (star_any s2)
        | cases hl
    | cons _ _ => cases m <;> cases hl
/-! ### the checker's yes -/
/-- what it says of an expression, of a list, of a chain's tail, of what a loop walks -/
structure SoundE (g : Gb) (N : List Str) (C : Cfg) (c : Cn) (A : E) : Prop where
  e : ∀ {k : Nat} {X : Cx} {sc : Scope} {ek : XK}, Ctx g N C c k X sc ek → ∀ e, chkE g N A sc e = true → DE X c ek e (ev C A) ∧ DT X c ek e (tev C A)
  l : ∀ {k : Nat} {X : Cx} {sc : Scope} {ek : XK}, Ctx g N C c k X sc ek → ∀ es, chkL g N A sc es = true → DA X c ek es (ev C A) ∧ (es = [] → A = .nil) ∧ ∀ en st r s', ev C A en st = .ok r s' → r.val.items.length = es.length
  s : ∀ {k : Nat} {X : Cx} {sc : Scope} {ek : XK}, Ctx g N C c k X sc ek → ∀ es, chkS g N A sc es = true → DA X c ek es (ev C A)
  w : ∀ {k : Nat} {X : Cx} {sc : Scope} {ek : XK}, Ctx g N C c k X sc ek → ∀ o es pos, chkW g N o A sc es = true →
    (∃ a r, es = a :: r) ∧ DE X c ek (.BoolOp o es pos) (ev C A) ∧ DW X c ek (.BoolOp o es pos) (tev C A)
  d : ∀ {k : Nat} {X : Cx} {sc : Scope} {ek : XK}, Ctx g N C c k X sc ek → ∀ vals, chkL g N A sc vals = true → ∀ pos ks keys, keysAre ks keys = true → keys.length = vals.length → DP X c ek pos ks keys vals (ev C A)
  k : ∀ {k : Nat} {X : Cx} {sc : Scope} {ek : XK}, Ctx g N C c k X sc ek → ∀ es kws, chkL g N A sc (es ++ kws.map (·.value)) = true → DK X c ek es kws (ev C A) ∧ (es = [] → DKW X c ek kws (ev C A))
  i : ∀ {k : Nat} {X : Cx} {sc : Scope} {ek : XK}, Ctx g N C c k X sc ek → ∀ tg e, chkI g N A sc tg e = true → DI X c ek tg e (ev C A) ∧ Src (ev C A)
theorem cst_of {d : D} {q : Const} {j : Nat} (h : cstB d q = true) : ∃ v, PE X (.Constant q j pos) (tC v) ∧ ∀ F la, Fz c F la v d := by
  cases d <;> cases q <;> first
    | exact ⟨.non, pe_non, fun _ _ => .non⟩
    | (have z : false = true := h
       cases z)
    | (rename_i a b
       have e : a = b := eq_of_beq h
       subst e
       exact ⟨.bl a, pe_bl, fun _ _ => .bl _⟩)
    | (rename_i a b
       have e : a = b := of_decide_eq_true h
       subst e
       first
         | exact ⟨.int a, pe_int, fun _ _ => .int _⟩
         | exact ⟨.str a, pe_str, fun _ _ => .str _⟩)
theorem cop_of {k : COp} {o : CmpOp} (h : cmpO k = some o) : (k, o) ∈ cops := by
  cases k <;> cases o <;> first
    | (simp [cops]; done)
    | (exact absurd h (by decide))
theorem bin_of (k : BOp) : (k, binO k) ∈ [(BOp.add, Operator.Add), (.sub, .Sub), (.mul, .Mult), (.fdiv, .FloorDiv), (.mod, .Mod), (.pow, .Pow)] := by
  cases k <;> simp [binO]
theorem pt_ifExp {tA tB1 tB2 : TT} {d : Expr} {X : Cx} (hc : PT X d tA) (ha : PT X a tB1) (hb : PT X b tB2) : PT X (.IfExp d a b pos) (fun σ H Q => tA σ H fun k H1 => if k = true then tB1 σ H1 Q else tB2 σ H1 Q) := by
  refine ⟨fun pins s σ H Q I h => ?_⟩
  show wpAny _ _ (do if ← isTrue d X.env (eval d X.env) then isTrue a X.env (eval a X.env) else isTrue b X.env (eval b X.env)) _ _ _
  refine wpAny_bind (thn (hc.run pins s σ H _ I h) fun k s1 ⟨H1, I1, q1⟩ => ?_)
  cases k with
  | true => exact ha.run pins s1 σ H1 Q I1 q1
  | false => exact hb.run pins s1 σ H1 Q I1 q1
theorem DT.ite {A B G : E} {d : Expr} (hg : DT X c ek d (tev C G)) (ha : DT X c ek a (tev C A)) (hb : DT X c ek b (tev C B)) : DT X c ek (.IfExp d a b pos) (tev C (.ite G A B)) := by
  obtain ⟨tg, pg, sg⟩ := hg
  obtain ⟨ta, pa, sa⟩ := ha
  obtain ⟨tb, pb, sb⟩ := hb
  refine ⟨_, pt_ifExp pg pa pb, fun σ F la H en st Q re rs h => ?_⟩
  rw [tev_ite] at h
  refine sg.then_ re rs (PostG.bnd h) fun k s1 F1 la1 H1 h1 x1 s2 => ?_
  cases k with
  | true => rw [if_pos rfl] at h1 ⊢; exact sa σ F1 la1 H1 en s1 Q (re.mono x1.mono) s2 (PostB.later x1 h1)
  | false => rw [if_neg Bool.false_ne_true] at h1 ⊢; exact sb σ F1 la1 H1 en s1 Q (re.mono x1.mono) s2 (PostB.later x1 h1)
/-- a slice's bound -/
def loB (g : Gb) (N : List Str) (sc : Scope) (l : Bool) (lo : Option Expr) (L : E) : Bool := match l, lo with
  | false, none => (match L with
    | .nil => true
    | _ => false)
  | true, some lo => chkE g N L sc lo
  | _, _ => false
theorem comp_sound {B G cond : E} {T : Tg} {own : List Nat} (hB : SoundE g N C c B) (hG : SoundE g N C c G) (hc : SoundE g N C c cond) (h : Ctx g N C c k X sc ek) (e : Expr) (q : chkE g N (.comp B T G cond own) sc e = true) :
    ∃ t, PE X e t ∧ SE c ek t (ev C (.comp B T G cond own)) ∧
      ∀ (i : Nat) (y : Str) (py spos : Pos), X.N[i]? = some y → X.env.scope.names.lookup y = some .local → swapsWith e (some (.Name y py)) spos.line X.env = pure true →
        PS X (.Assign [.Name y py] e spos) (tAsg t (gName i)) := by
  cases e with
  | ListComp elt gs scope p =>
    match gs, q with
    | [⟨tg, iter, ifs, n⟩], q =>
      have q : (decide (n = 0) && chkI g N G sc tg iter && noSet iter && blkC N sc scope (ownS N own) && tgB N (relS scope sc) (fun x => scope.names.lookup x == some .cell) T tg && tgIn own T &&
        chkE g N B (relS scope sc) elt && ifsB cond (chkE g N cond (relS scope sc)) ifs) = true := q
      rw [Bool.and_eq_true, Bool.and_eq_true, Bool.and_eq_true, Bool.and_eq_true, Bool.and_eq_true, Bool.and_eq_true, Bool.and_eq_true] at q
      obtain ⟨⟨⟨⟨⟨⟨⟨q0, q1⟩, q2⟩, q3⟩, q4⟩, q5⟩, q6⟩, q7⟩ := q
      have e0 := of_decide_eq_true q0
      subst e0
      obtain ⟨di, src⟩ := hG.i h tg iter q1
      have fn : ∀ (s : Shared) (H : Hp) (C' : Addr) (cl : List (Str × Addr)) (fp : List Addr) x, (scope.names.lookup x == some .cell) = true → (X.blk s H scope (compEnvC scope cl C' X.env) fp).fn x = true := fun _ _ _ _ _ _ hx => hx
      have ow : own = (ownS N own).map (·.2) := by
        unfold ownS
        rw [List.map_map]
        exact (List.map_id own).symm
      have key : ∃ tt, (∀ (s : Shared) (H : Hp) (C' : Addr) (cl : List (Str × Addr)) (fp : List Addr), PTs (X.blk s H scope (compEnvC scope cl C' X.env) fp) ifs tt) ∧ ST c E0 tt (tev C cond) := by
        match ifs, q7 with
        | [], q7 =>
          refine ⟨tYes, fun s H C' cl fp => pts_nil, ?_⟩
          cases cond with
          | cst d =>
            cases d with
            | bl b =>
              cases b with
              | true => exact fun σ F la H en st Q re rs hp => hp F la H .refl rs
              | false => cases q7
            | _ => cases q7
          | _ => cases q7
        | [d], q7 =>
          refine ⟨TTof c E0 (tev C cond), fun s H C' cl fp => pts_one (hc.e (h.blk s H scope C' cl fp) d q7).2.pt, fun σ F la H en st Q re rs hp => ⟨F, la, en, st, re, rs, hp⟩⟩
        | _ :: _ :: _, q7 => cases q7
      obtain ⟨tt, ht, stt⟩ := key
      exact comp_all h.ft ow di (blkOk_by (by rw [h.N, h.sc]; exact q3)) (fun s H C' cl fp => (tg_of (h.blk s H scope C' cl fp) _ (fn s H C' cl fp) q5 q4).1) (sg_of q5)
        ht stt (fun s H C' cl fp => (hB.e (h.blk s H scope C' cl fp) elt q6).1) (fun x => set_of q2) src
    | [], q => cases q
    | ⟨_, _, _, _⟩ :: _ :: _, q => cases q
  | _ => cases q
theorem noL {A : E} (h : ∀ sc es, chkL g N A sc es = false) {P : Prop} {sc : Scope} {es : List Expr} (q : chkL g N A sc es = true) : P := by rw [h] at q; cases q
theorem chn_marks {o o' : CmpOp} (h : ∃ k, cmpO k = some o') : lastMarks [o, o'] [a, b] = false := by
  obtain ⟨k, hk⟩ := h
  have : behindInMarks o' b = false := by
    cases k <;> cases hk <;> exact nomark b
  exact this
theorem tyname_of (h : Ctx g N C c k X sc ek) {n : Pr} {y : String} {p : Pos} (hn : prN n = some y) (hg : glB sc (Str.ofString y) = true) (hm : g.bis.contains (Str.ofString y) = true) : TyName X (.Name (Str.ofString y) p) (.pr n) := by
  obtain ⟨g1, g2⟩ := gl_of h hg
  have m := h.bis _ hm
  refine ⟨n, rfl, ?_⟩
  cases n <;> cases hn <;> exact pe_bltn g1 m (by decide +kernel) rfl (by decide) g2
theorem soundE : ∀ A : E, SoundE g N C c A := by
  intro A
  induction A with
  | var i =>
    refine ⟨fun {k X sc ek} h e q => ?_, fun h es q => (by cases q), fun h es q => (by cases q), fun h o es pos q => (by cases q), fun h vals q => (by cases q), fun h es kws q => (by cases q), fun h tg e q => (by cases q)⟩
    cases e with
    | Name x p =>
      have q : (decide (N[i]? = some x) && visB sc x && decide (x ≠ ("__debug__" : Str)) && decide (x ≠ ("__classdict__" : Str))) = true := q
      rw [Bool.and_eq_true, Bool.and_eq_true, Bool.and_eq_true] at q
      exact DE.both h (DE.var (by rw [h.N]; exact of_decide_eq_true q.1.1.1) (vis_of h q.1.1.2) (beq_eq_false_iff_ne.mpr (of_decide_eq_true q.1.2)) (beq_eq_false_iff_ne.mpr (of_decide_eq_true q.2))) rfl
    | _ => cases q
  | cst d =>
    refine ⟨fun {k X sc ek} h e q => ?_, fun h es q => (by cases q), fun h es q => (by cases q), fun h o es pos q => (by cases q), fun h vals q => (by cases q), fun h es kws q => (by cases q), fun h tg e q => (by cases q)⟩
    cases e with
    | Constant qc j p =>
      obtain ⟨v, pe, fz⟩ := cst_of (X := X) (c := c) (j := j) (pos := p) (show cstB d qc = true from q)
      exact DE.both h (DE.const pe fz) rfl
    | _ => cases q
  | glo x d =>
    refine ⟨fun {k X sc ek} h e q => ?_, fun h es q => (by cases q), fun h es q => (by cases q), fun h o es pos q => (by cases q), fun h vals q => (by cases q), fun h es kws q => (by cases q), fun h tg e q => (by cases q)⟩
    cases e with
    | Name y p =>
      have q : (decide (x = y) && glB sc x && (match g.cons.lookup x with
        | some d' => D.beq d d'
        | none => false)) = true := q
      rw [Bool.and_eq_true, Bool.and_eq_true] at q
      have e0 := of_decide_eq_true q.1.1
      subst e0
      cases e1 : g.cons.lookup x with
      | none => rw [e1] at q; cases q.2
      | some d' =>
        rw [e1] at q
        have e2 := D.of_beq q.2
        subst e2
        obtain ⟨u, v, m, r, fz⟩ := h.cons x d e1
        obtain ⟨g1, g2⟩ := gl_of h q.1.2
        exact DE.both h (DE.const (pe_glob g1 m r g2) fz) rfl
    | _ => cases q
  | nil =>
    refine ⟨fun h e q => (by cases q), fun {k X sc ek} h es q => ?_, fun {k X sc ek} h es q => ?_, fun h o es pos q => (by cases q), fun {k X sc ek} h vals q pos ks keys hk hl => ?_, fun {k X sc ek} h es kws q => ?_, fun h tg e q => (by cases q)⟩
    · cases es with
      | nil => exact ⟨DA.nil, fun _ => rfl, fun en st r s' e => by cases e; rfl⟩
      | cons _ _ => cases q
    · cases es with
      | nil => exact DA.nil
      | cons _ _ => cases q
    · cases vals with
      | cons _ _ => cases q
      | nil => cases keys with
        | cons _ _ => cases hl
        | nil => cases ks with
          | cons _ _ => cases hk
          | nil => exact DP.nil
    · cases es with
      | cons _ _ => cases q
      | nil => cases kws with
        | cons _ _ => cases q
        | nil => exact ⟨DK.kw DKW.nil, fun _ => DKW.nil⟩
  | cons A B ha hb =>
    refine ⟨fun h e q => (by cases q), fun {k X sc ek} h es q => ?_, fun {k X sc ek} h es q => ?_, fun h o es pos q => (by cases q), fun {k X sc ek} h vals q pos ks keys hk hl => ?_, fun {k X sc ek} h es kws q => ?_, fun h tg e q => (by cases q)⟩
    rotate_left
    · cases es with
      | nil => cases q
      | cons a r =>
        have q : (noStar [a] && chkE g N A sc a && chkS g N B sc r) = true := q
        rw [Bool.and_eq_true, Bool.and_eq_true] at q
        refine DA.cons (ha.e h a q.1.2).1 (hb.s h r q.2) ?_
        have q1 := q.1.1
        cases a <;> first
          | rfl
          | cases q1
    · cases vals with
      | nil => cases q
      | cons a r =>
        have q : (noStar [a] && chkE g N A sc a && chkL g N B sc r) = true := q
        rw [Bool.and_eq_true, Bool.and_eq_true] at q
        cases keys with
        | nil => cases hl
        | cons ke keys => cases ks with
          | nil => cases hk
          | cons kk ks =>
            have hk : (keyIs kk ke && keysAre ks keys) = true := hk
            rw [Bool.and_eq_true] at hk
            exact DP.cons hk.1 (ha.e h a q.1.2).1 (hb.d h r q.2 pos ks keys hk.2 (Nat.succ.inj hl))
    · cases es with
      | nil => cases kws with
        | nil => cases q
        | cons kw kws =>
          obtain ⟨nm, a, kp⟩ := kw
          have q : (noStar [a] && chkE g N A sc a && chkL g N B sc (kws.map (·.value))) = true := q
          rw [Bool.and_eq_true, Bool.and_eq_true] at q
          have w := DKW.cons (nm := nm) (kpos := kp) (ha.e h a q.1.2).1 ((hb.k h [] kws q.2).2 rfl)
          exact ⟨DK.kw w, fun _ => w⟩
      | cons a r =>
        have q : (noStar [a] && chkE g N A sc a && chkL g N B sc (r ++ kws.map (·.value))) = true := q
        rw [Bool.and_eq_true, Bool.and_eq_true] at q
        refine ⟨DK.cons (ha.e h a q.1.2).1 (hb.k h r kws q.2).1 ?_, fun z => (by cases z)⟩
        have q1 := q.1.1
        cases a <;> first
          | rfl
          | cases q1
    cases es with
    | nil => cases q
    | cons a r =>
      have q : (noStar [a] && chkE g N A sc a && chkL g N B sc r) = true := q
      rw [Bool.and_eq_true, Bool.and_eq_true] at q
      obtain ⟨da, _⟩ := ha.e h a q.1.2
      obtain ⟨db, _, hl⟩ := hb.l h r q.2
      have hs : starEach (a :: r) X.env = (false, eval a X.env) :: starEach r X.env := by
        have q1 := q.1.1
        cases a <;> first
          | rfl
          | cases q1
      refine ⟨DA.cons da db hs, fun z => (by cases z), fun en st rr s' e => ?_⟩
      obtain ⟨x, s1, e1, e2⟩ := bnd_ok (show bnd (ev C A en) (fun x => bnd (ev C B en) fun y => rtn (R.d (.tup (x.val :: y.val.items)))) st = Out.ok rr s' from e)
      obtain ⟨y, s2, e3, e4⟩ := bnd_ok e2
      cases e4
      show (y.val.items).length + 1 = r.length + 1
      rw [hl _ _ _ _ e3]
  | star A B ha hb =>
    refine ⟨fun h e q => (by cases q), fun h es q => (by cases q), fun {k X sc ek} h es q => ?_, fun h o es pos q => (by cases q), fun h vals q => (by cases q), fun h es kws q => (by cases q), fun h tg e q => (by cases q)⟩
    cases es with
    | nil => cases q
    | cons a r => cases a with
      | Starred a p =>
        have q : (chkE g N A sc a && chkS g N B sc r) = true := q
        rw [Bool.and_eq_true] at q
        exact DA.star h.ft.K (ha.e h a q.1).1 (hb.s h r q.2)
      | _ => cases q
  | tup A ha =>
    refine ⟨fun {k X sc ek} h e q => ?_, fun h es q => (by cases q), fun h es q => (by cases q), fun h o es pos q => (by cases q), fun h vals q => (by cases q), fun h es kws q => (by cases q), fun h tg e q => (by cases q)⟩
    cases e with
    | Tuple es j p => exact DE.both h (DE.tup (ha.s h es q)) rfl
    | _ => cases q
  | lst A ha =>
    refine ⟨fun {k X sc ek} h e q => ?_, fun h es q => (by cases q), fun h es q => (by cases q), fun h o es pos q => (by cases q), fun h vals q => (by cases q), fun h es kws q => (by cases q), fun h tg e q => (by cases q)⟩
    cases e with
    | List es p => exact DE.both h (DE.lst (ha.s h es q)) rfl
    | _ => cases q
  | bin k A B ha hb =>
    refine ⟨fun {k' X sc ek} h e q => ?_, fun h es q => (by cases q), fun h es q => (by cases q), fun h o es pos q => (by cases q), fun h vals q => (by cases q), fun h es kws q => (by cases q), fun h tg e q => (by cases q)⟩
    cases e with
    | BinOp a o b p =>
      have q : (decide (binO k = o) && chkE g N A sc a && chkE g N B sc b) = true := q
      rw [Bool.and_eq_true, Bool.and_eq_true] at q
      have e0 := of_decide_eq_true q.1.1
      subst e0
      exact DE.both h (DE.bin h.ft (ha.e h a q.1.2).1 (hb.e h b q.2).1 (bin_of k)) rfl
    | _ => cases q
  | neg A ha =>
    refine ⟨fun {k X sc ek} h e q => ?_, fun h es q => (by cases q), fun h es q => (by cases q), fun h o es pos q => (by cases q), fun h vals q => (by cases q), fun h es kws q => (by cases q), fun h tg e q => (by cases q)⟩
    cases e with
    | UnaryOp o a p =>
      cases o with
      | USub => exact DE.both h (DE.neg (ha.e h a q).1) rfl
      | _ => cases q
    | _ => cases q
  | cmp o A B ha hb =>
    refine ⟨fun {k X sc ek} h e q => ?_, fun h es q => (by cases q), fun h es q => (by cases q), fun h o es pos q => (by cases q), fun h vals q => (by cases q), fun h es kws q => (by cases q), fun h tg e q => (by cases q)⟩
    cases e with
    | Compare a os bs p =>
      match os, bs, q with
      | [o'], [b], q =>
        have q : (decide (cmpO o = some o') && chkE g N A sc a && chkE g N B sc b) = true := q
        rw [Bool.and_eq_true, Bool.and_eq_true] at q
        have hk := cop_of (of_decide_eq_true q.1.1)
        exact ⟨DE.cmpK h.ft hk (ha.e h a q.1.2).1 (hb.e h b q.2).1, DT.cmpK h.ft hk (ha.e h a q.1.2).1 (hb.e h b q.2).1⟩
      | [], _, q => cases q
      | [_], [], q => cases q
      | [_], _ :: _ :: _, q => cases q
      | _ :: _ :: _, _, q => cases q
    | _ => cases q
  | chn o o2 A B G ha hb hg =>
    refine ⟨fun {k X sc ek} h e q => ?_, fun h es q => (by cases q), fun h es q => (by cases q), fun h o es pos q => (by cases q), fun h vals q => (by cases q), fun h es kws q => (by cases q), fun h tg e q => (by cases q)⟩
    cases e with
    | Compare a os bs p =>
      match os, bs, q with
      | [o', o2'], [b, d], q =>
        have q : (decide (cmpO o = some o') && decide (cmpO o2 = some o2') && chkE g N A sc a && chkE g N B sc b && chkE g N G sc d) = true := q
        rw [Bool.and_eq_true, Bool.and_eq_true, Bool.and_eq_true, Bool.and_eq_true] at q
        have hk := cop_of (of_decide_eq_true q.1.1.1.1)
        have hk2 := cop_of (of_decide_eq_true q.1.1.1.2)
        have hm : lastMarks [o', o2'] [b, d] = false := chn_marks ⟨o2, of_decide_eq_true q.1.1.1.2⟩
        exact ⟨DE.chn h.ft hk hk2 (ha.e h a q.1.1.2).1 (hb.e h b q.1.2).1 (hg.e h d q.2).1 hm, DT.chn h.ft hk hk2 (ha.e h a q.1.1.2).1 (hb.e h b q.1.2).1 (hg.e h d q.2).1 hm⟩
      | [], _, q => cases q
      | [_], _, q => cases q
      | [_, _], [], q => cases q
      | [_, _], [_], q => cases q
      | [_, _], _ :: _ :: _ :: _, q => cases q
      | _ :: _ :: _ :: _, _, q => cases q
    | _ => cases q
  | and A B ha hb =>
    refine ⟨fun {k X sc ek} h e q => ?_, fun h es q => (by cases q), fun h es q => (by cases q), fun {k X sc ek} h o es pos q => ?_, fun h vals q => (by cases q), fun h es kws q => (by cases q), fun h tg e q => (by cases q)⟩
    · cases e with
      | BoolOp o es p =>
        cases o with
        | Or => cases q
        | And =>
          match es, q with
          | a :: b :: r, q =>
            have q : (chkE g N A sc a && chkW g N .And B sc (b :: r)) = true := q
            rw [Bool.and_eq_true] at q
            obtain ⟨d1, t1⟩ := ha.e h a q.1
            obtain ⟨_, d2, t2⟩ := hb.w h .And (b :: r) p q.2
            exact ⟨DE.and h.ft d1 d2, (DW.and t1 t2).dt⟩
          | [], q => cases q
          | [_], q => cases q
      | _ => cases q
    · match es, q with
      | a :: b :: r, q =>
        have q : (decide (o = .And) && chkE g N A sc a && chkW g N o B sc (b :: r)) = true := q
        rw [Bool.and_eq_true, Bool.and_eq_true] at q
        have e0 := of_decide_eq_true q.1.1
        subst e0
        obtain ⟨d1, t1⟩ := ha.e h a q.1.2
        obtain ⟨_, d2, t2⟩ := hb.w h .And (b :: r) pos q.2
        exact ⟨⟨_, _, rfl⟩, DE.and h.ft d1 d2, DW.and t1 t2⟩
      | [], q => cases q
      | [_], q => cases q
  | or A B ha hb =>
    refine ⟨fun {k X sc ek} h e q => ?_, fun h es q => (by cases q), fun h es q => (by cases q), fun {k X sc ek} h o es pos q => ?_, fun h vals q => (by cases q), fun h es kws q => (by cases q), fun h tg e q => (by cases q)⟩
    · cases e with
      | BoolOp o es p =>
        cases o with
        | And => cases q
        | Or =>
          match es, q with
          | a :: b :: r, q =>
            have q : (chkE g N A sc a && chkW g N .Or B sc (b :: r)) = true := q
            rw [Bool.and_eq_true] at q
            obtain ⟨d1, t1⟩ := ha.e h a q.1
            obtain ⟨_, d2, t2⟩ := hb.w h .Or (b :: r) p q.2
            exact ⟨DE.or h.ft d1 d2, (DW.or t1 t2).dt⟩
          | [], q => cases q
          | [_], q => cases q
      | _ => cases q
    · match es, q with
      | a :: b :: r, q =>
        have q : (decide (o = .Or) && chkE g N A sc a && chkW g N o B sc (b :: r)) = true := q
        rw [Bool.and_eq_true, Bool.and_eq_true] at q
        have e0 := of_decide_eq_true q.1.1
        subst e0
        obtain ⟨d1, t1⟩ := ha.e h a q.1.2
        obtain ⟨_, d2, t2⟩ := hb.w h .Or (b :: r) pos q.2
        exact ⟨⟨_, _, rfl⟩, DE.or h.ft d1 d2, DW.or t1 t2⟩
      | [], q => cases q
      | [_], q => cases q
  | one A ha =>
    refine ⟨fun h e q => (by cases q), fun h es q => (by cases q), fun h es q => (by cases q), fun {k X sc ek} h o es pos q => ?_, fun h vals q => (by cases q), fun h es kws q => (by cases q), fun h tg e q => (by cases q)⟩
    match es, q with
    | [a], q =>
      obtain ⟨d1, t1⟩ := ha.e h a q
      refine ⟨⟨_, _, rfl⟩, DE.one d1, ?_⟩
      cases o with
      | And => exact DW.and1 t1
      | Or => exact DW.or1 t1
    | [], q => cases q
    | _ :: _ :: _, q => cases q
  | not A ha =>
    refine ⟨fun {k X sc ek} h e q => ?_, fun h es q => (by cases q), fun h es q => (by cases q), fun h o es pos q => (by cases q), fun h vals q => (by cases q), fun h es kws q => (by cases q), fun h tg e q => (by cases q)⟩
    cases e with
    | UnaryOp o a p =>
      cases o with
      | Not =>
        obtain ⟨d1, t1⟩ := ha.e h a q
        exact ⟨DE.not h.ft d1, DT.not t1⟩
      | _ => cases q
    | _ => cases q
  | ite G A B hg ha hb =>
    refine ⟨fun {k X sc ek} h e q => ?_, fun h es q => (by cases q), fun h es q => (by cases q), fun h o es pos q => (by cases q), fun h vals q => (by cases q), fun h es kws q => (by cases q), fun h tg e q => (by cases q)⟩
    cases e with
    | IfExp d a b p =>
      have q : (chkE g N G sc d && chkE g N A sc a && chkE g N B sc b) = true := q
      rw [Bool.and_eq_true, Bool.and_eq_true] at q
      obtain ⟨d0, t0⟩ := hg.e h d q.1.1
      obtain ⟨d1, t1⟩ := ha.e h a q.1.2
      obtain ⟨d2, t2⟩ := hb.e h b q.2
      exact ⟨DE.ite t0 d1 d2, DT.ite t0 t1 t2⟩
    | _ => cases q
  | idx A I ha hi =>
    refine ⟨fun {k X sc ek} h e q => ?_, fun h es q => (by cases q), fun h es q => (by cases q), fun h o es pos q => (by cases q), fun h vals q => (by cases q), fun h es kws q => (by cases q), fun h tg e q => (by cases q)⟩
    cases e with
    | Subscript a b p =>
      have q : (plainB b && chkE g N A sc a && chkE g N I sc b) = true := q
      rw [Bool.and_eq_true, Bool.and_eq_true] at q
      exact DE.both h (DE.idx h.ft (ha.e h a q.1.2).1 (hi.e h b q.2).1 (plain_ix q.1.1)) rfl
    | _ => cases q
  | key A s ha =>
    refine ⟨fun {k X sc ek} h e q => ?_, fun h es q => (by cases q), fun h es q => (by cases q), fun h o es pos q => (by cases q), fun h vals q => (by cases q), fun h es kws q => (by cases q), fun h tg e q => (by cases q)⟩
    cases e with
    | Subscript a b p =>
      cases b with
      | Constant qc j p2 =>
        cases qc with
        | str s' =>
          have q : (decide (s = s') && chkE g N A sc a) = true := q
          rw [Bool.and_eq_true] at q
          have e0 := of_decide_eq_true q.1
          subst e0
          exact DE.both h (DE.key h.ft (ha.e h a q.2).1) rfl
        | _ => cases q
      | _ => cases q
    | _ => cases q
  | slc A l L hh G ha hL hG =>
    refine ⟨fun {k X sc ek} h e q => ?_, fun h es q => (by cases q), fun h es q => (by cases q), fun h o es pos q => (by cases q), fun h vals q => (by cases q), fun h es kws q => (by cases q), fun h tg e q => (by cases q)⟩
    cases e with
    | Subscript a b p =>
      cases b with
      | Slice lo hi stp p2 =>
        cases stp with
        | some _ => cases q
        | none =>
          have q : (chkE g N A sc a && loB g N sc l lo L && loB g N sc hh hi G) = true := q
          rw [Bool.and_eq_true, Bool.and_eq_true] at q
          have dl : DO X c ek lo l (ev C L) := by
            have q1 := q.1.2
            cases l with
            | false =>
              cases lo with
              | none =>
                cases L with
                | nil => exact DO.no
                | _ => cases q1
              | some _ => cases q1
            | true =>
              cases lo with
              | none => cases q1
              | some lo => exact DO.yes (hL.e h lo q1).1
          have dh : DO X c ek hi hh (ev C G) := by
            have q1 := q.2
            cases hh with
            | false =>
              cases hi with
              | none =>
                cases G with
                | nil => exact DO.no
                | _ => cases q1
              | some _ => cases q1
            | true =>
              cases hi with
              | none => cases q1
              | some hi => exact DO.yes (hG.e h hi q1).1
          exact DE.both h (DE.slc h.ft (ha.e h a q.1.1).1 dl dh) rfl
      | _ => cases q
    | _ => cases q
  | rev A ha =>
    refine ⟨fun {k X sc ek} h e q => ?_, fun h es q => (by cases q), fun h es q => (by cases q), fun h o es pos q => (by cases q), fun h vals q => (by cases q), fun h es kws q => (by cases q), fun h tg e q => (by cases q)⟩
    cases e with
    | Subscript a b p =>
      cases b with
      | Slice lo hi stp p2 =>
        cases lo with
        | some _ => cases q
        | none => cases hi with
          | some _ => cases q
          | none => cases stp with
            | none => cases q
            | some u => cases u with
              | UnaryOp o w p3 => cases o with
                | USub => cases w with
                  | Constant cc j p4 => cases cc with
                    | int i =>
                      have q : (decide (i = 1) && chkE g N A sc a) = true := q
                      rw [Bool.and_eq_true] at q
                      have e0 := of_decide_eq_true q.1
                      subst e0
                      exact DE.both h (DE.rev h.ft (ha.e h a q.2).1) rfl
                    | _ => cases q
                  | _ => cases q
                | _ => cases q
              | _ => cases q
      | _ => cases q
    | _ => cases q
  | call f A ha =>
    refine ⟨fun {k X sc ek} h e q => ?_, fun h es q => (by cases q), fun h es q => (by cases q), fun h o es pos q => (by cases q), fun h vals q => (by cases q), fun h es kws q => (by cases q), fun h tg e q => (by cases q)⟩
    cases e with
    | Call fe es kws p =>
      cases fe with
      | Name x p2 =>
        match es, kws, q with
        | a :: es, [], q =>
          have q : (glB sc x && decide (g.fns.lookup x = some f) && noStar (a :: es) && chkL g N A sc (a :: es)) = true := q
          rw [Bool.and_eq_true, Bool.and_eq_true, Bool.and_eq_true] at q
          obtain ⟨f', fd, ps, m, kp, G, hb, _⟩ := h.fns x f (of_decide_eq_true q.1.1.2)
          obtain ⟨g1, g2⟩ := gl_of h q.1.1.1
          obtain ⟨s1, s2⟩ := star_cons (env := X.env) q.1.2
          exact DE.both h (DE.call G h.room h.ft h.pass g1 m kp hb (ha.l h _ q.2).1 g2 s1 (star_any s2)) rfl
        | [], _, q => cases q
        | _ :: _, _ :: _, q => cases q
      | _ => cases q
    | _ => cases q
  | callk f A ks perm ha =>
    refine ⟨fun {k X sc ek} h e q => ?_, fun h es q => (by cases q), fun h es q => (by cases q), fun h o es pos q => (by cases q), fun h vals q => (by cases q), fun h es kws q => (by cases q), fun h tg e q => (by cases q)⟩
    cases e with
    | Call fe es kws p =>
      cases fe with
      | Name x p2 =>
        have q : (glB sc x && decide (g.fns.lookup x = some f) && noStar es && g.kbs.contains (f, es.length, ks, perm) && decide (kws.map (·.arg) = ks.map some) && perm.all (fun i => decide (i < es.length + ks.length)) && chkL g N A sc (es ++ kws.map (·.value))) = true := q
        rw [Bool.and_eq_true, Bool.and_eq_true, Bool.and_eq_true, Bool.and_eq_true, Bool.and_eq_true, Bool.and_eq_true] at q
        obtain ⟨⟨⟨⟨⟨⟨q1, q2⟩, q3⟩, q4⟩, q5⟩, q6⟩, q7⟩ := q
        obtain ⟨f', fd, ps, m, kp, G, _, hb⟩ := h.fns x f (of_decide_eq_true q2)
        obtain ⟨g1, g2⟩ := gl_of h q1
        have hb := hb _ _ _ (List.contains_iff_mem.mp q4)
        have hp : ∀ i ∈ perm, i < es.length + ks.length := fun i hi => of_decide_eq_true (List.all_eq_true.mp q6 i hi)
        obtain ⟨d1, d0⟩ := ha.k h es kws q7
        refine DE.both h ?_ rfl
        cases es with
        | nil => exact DE.callk0 G h.room h.ft h.pass g1 m kp hb hp (d0 rfl) (of_decide_eq_true q5) g2
        | cons a r => exact DE.callk1 G h.room h.ft h.pass g1 m kp hb hp d1 (of_decide_eq_true q5) g2 (noS_of q3) (fun z => nomatch z)
      | _ => cases q
    | _ => cases q
  | bi b A ha =>
    refine ⟨fun {k X sc ek} h e q => ?_, fun h es q => (by cases q), fun h es q => (by cases q), fun h o es pos q => (by cases q), fun h vals q => (by cases q), fun h es kws q => (by cases q), fun h tg e q => (by cases q)⟩
    cases e with
    | Call fe es kws p =>
      cases fe with
      | Name x p2 =>
        match es, kws, q with
        | a :: es, [], q =>
          have q : (glB sc x && decide (x = Str.ofString (biN b)) && g.bis.contains x && noStar (a :: es) && biOk b && chkL g N A sc (a :: es)) = true := q
          rw [Bool.and_eq_true, Bool.and_eq_true, Bool.and_eq_true, Bool.and_eq_true, Bool.and_eq_true] at q
          exact DE.both h (bi_of h (of_decide_eq_true q.1.1.1.1.2) q.1.1.1.1.1 q.1.1.1.2 q.1.1.2 (ha.l h _ q.2).1 (by intro z; subst z; cases q.1.2) (by intro z; subst z; cases q.1.2)) rfl
        | [], _, q => cases q
        | _ :: _, _ :: _, q => cases q
      | _ => cases q
    | _ => cases q
  | mth m A B ha hb =>
    refine ⟨fun {k X sc ek} h e q => ?_, fun h es q => (by cases q), fun h es q => (by cases q), fun h o es pos q => (by cases q), fun h vals q => (by cases q), fun h es kws q => (by cases q), fun h tg e q => (by cases q)⟩
    cases e with
    | Call fe es kws p =>
      cases fe with
      | Attribute a name apos =>
        cases kws with
        | cons _ _ => cases q
        | nil =>
          have q : (decide (name = Str.ofString (mtN m)) && noCall a && mtOk m es.length && (apos.endLine == p.line) && noStar es && chkE g N A sc a && chkL g N B sc es) = true := q
          rw [Bool.and_eq_true, Bool.and_eq_true, Bool.and_eq_true, Bool.and_eq_true, Bool.and_eq_true, Bool.and_eq_true] at q
          obtain ⟨db, hB, _⟩ := hb.l h es q.2
          exact DE.both h (mth_of h (of_decide_eq_true q.1.1.1.1.1.1) q.1.1.1.1.1.2 q.1.1.1.1.2 q.1.1.1.2 q.1.1.2 (ha.e h a q.1.2).1 db hB) rfl
      | _ => cases q
    | _ => cases q
  | comp B T G cond own hB hG hc =>
    refine ⟨fun {k X sc ek} h e q => ?_, fun h es q => (by cases q), fun h es q => (by cases q), fun h o es pos q => (by cases q), fun h vals q => (by cases q), fun h es kws q => (by cases q), fun h tg e q => (by cases q)⟩
    obtain ⟨t, pe, se, _⟩ := comp_sound hB hG hc h e q
    exact DE.both h ⟨t, pe, se⟩ (by
      cases e with
      | ListComp _ _ _ _ => rfl
      | _ => cases q)
  | newl A ha =>
    refine ⟨fun {k X sc ek} h e q => ?_, fun h es q => (by cases q), fun h es q => (by cases q), fun h o es pos q => (by cases q), fun h vals q => (by cases q), fun h es kws q => (by cases q), fun h tg e q => (by cases q)⟩
    have q : (isTest e && chkE g N A sc e) = true := q
    rw [Bool.and_eq_true] at q
    exact DE.both h (DE.newl (ha.e h e q.2).1) q.1
  | newd ks A ha =>
    refine ⟨fun {k X sc ek} h e q => ?_, fun h es q => (by cases q), fun h es q => (by cases q), fun h o es pos q => (by cases q), fun h vals q => (by cases q), fun h es kws q => (by cases q), fun h tg e q => (by cases q)⟩
    cases e with
    | Dict keys vals p =>
      have q : (keysAre ks keys && decide ks.Nodup && decide (keys.length = vals.length) && !keys.isEmpty && decide (keys.length ≤ 15) && chkL g N A sc vals) = true := q
      rw [Bool.and_eq_true, Bool.and_eq_true, Bool.and_eq_true, Bool.and_eq_true, Bool.and_eq_true] at q
      obtain ⟨⟨⟨⟨⟨q1, q2⟩, q3⟩, q4⟩, q5⟩, q6⟩ := q
      have hl := of_decide_eq_true q3
      exact DE.both h (DE.newd (ha.d h vals q6 p ks keys q1 hl) q1 (of_decide_eq_true q2) hl (fun z => by rw [z] at q4; cases q4) (of_decide_eq_true q5)) rfl
    | _ => cases q
  | itv A ha =>
    refine ⟨fun h e q => (by cases q), fun h es q => (by cases q), fun h es q => (by cases q), fun h o es pos q => (by cases q), fun h vals q => (by cases q), fun h es kws q => (by cases q), fun {k X sc ek} h tg e q => ⟨DI.seq h.ft (ha.e h e q).1, Src.itv⟩⟩
  | rng A ha =>
    refine ⟨fun h e q => (by cases q), fun h es q => (by cases q), fun h es q => (by cases q), fun h o es pos q => (by cases q), fun h vals q => (by cases q), fun h es kws q => (by cases q), fun {k X sc ek} h tg e q => ⟨?_, Src.rng⟩⟩
    cases e with
    | Call fe es kws p =>
      cases fe with
      | Name x p2 =>
        cases kws with
        | cons _ _ => cases q
        | nil =>
          have q : (decide (x = ("range" : Str)) && glB sc x && g.bis.contains x && noStar es && (decide (es.length = 1) || decide (es.length = 2)) && chkL g N A sc es) = true := q
          rw [Bool.and_eq_true, Bool.and_eq_true, Bool.and_eq_true, Bool.and_eq_true, Bool.and_eq_true] at q
          obtain ⟨⟨⟨⟨⟨q1, q2⟩, q3⟩, q4⟩, q5⟩, q6⟩ := q
          have e0 := of_decide_eq_true q1
          subst e0
          obtain ⟨g1, _⟩ := gl_of h q2
          obtain ⟨da, _, hl⟩ := ha.l h es q6
          match es, q4, q5, da, hl with
          | [a], q4, _, da, hl =>
            exact DI.rng1 g1 (h.bis _ q3) da hl (star_cons q4).1
          | [a, b], q4, _, da, hl =>
            obtain ⟨s1, s2⟩ := star_cons (env := X.env) q4
            have s3 := (star_cons (env := X.env) s2).1
            exact DI.rng2 g1 (h.bis _ q3) da hl (by rw [s1, s3]; rfl) s3
          | [], _, q5, _, _ => cases q5
          | _ :: _ :: _ :: _, _, q5, _, _ => simp at q5
      | _ => cases q
    | _ => cases q
  | enu A kk ha =>
    refine ⟨fun h e q => (by cases q), fun h es q => (by cases q), fun h es q => (by cases q), fun h o es pos q => (by cases q), fun h vals q => (by cases q), fun h es kws q => (by cases q), fun {k X sc ek} h tg e q => ⟨?_, Src.enu⟩⟩
    cases tg with
    | Tuple elts j tp =>
      cases e with
      | Call fe es kws p =>
        cases fe with
        | Name x p2 =>
          cases es with
          | nil => cases q
          | cons a r => cases r with
            | nil => cases kws with
              | cons _ _ => cases q
              | nil =>
                have q : (decide (x = ("enumerate" : Str)) && glB sc x && g.bis.contains x && noStar [a] && decide (kk = 0) && chkE g N A sc a) = true := q
                rw [Bool.and_eq_true, Bool.and_eq_true, Bool.and_eq_true, Bool.and_eq_true, Bool.and_eq_true] at q
                obtain ⟨⟨⟨⟨⟨q1, q2⟩, q3⟩, q4⟩, q5⟩, q6⟩ := q
                have e0 := of_decide_eq_true q1
                subst e0
                have e0 := of_decide_eq_true q5
                subst e0
                exact DI.enu1 h.ft (gl_of h q2).1 (h.bis _ q3) (ha.e h a q6).1 (star_cons q4).1
            | cons b r2 => cases b with
              | Constant cc j2 p3 => cases cc with
                | int i => cases r2 with
                  | cons _ _ => cases q
                  | nil => cases kws with
                    | cons _ _ => cases q
                    | nil =>
                      have q : (decide (x = ("enumerate" : Str)) && glB sc x && g.bis.contains x && noStar [a] && decide (kk = i) && smallI kk && chkE g N A sc a) = true := q
                      rw [Bool.and_eq_true, Bool.and_eq_true, Bool.and_eq_true, Bool.and_eq_true, Bool.and_eq_true, Bool.and_eq_true] at q
                      obtain ⟨⟨⟨⟨⟨⟨q1, q2⟩, q3⟩, q4⟩, q5⟩, q7⟩, q6⟩ := q
                      have e0 := of_decide_eq_true q1
                      subst e0
                      have e0 := of_decide_eq_true q5
                      subst e0
                      obtain ⟨b1, b2⟩ := smallI_is q7
                      refine DI.enu2 h.ft (gl_of h q2).1 (h.bis _ q3) (ha.e h a q6).1 (by omega) (by omega) ?_
                      cases a <;> first
                        | rfl
                        | cases q4
                | _ => cases q
              | _ => cases q
        | _ => cases q
      | _ => cases q
    | _ => cases q
  | zip A B ha hb =>
    refine ⟨fun h e q => (by cases q), fun h es q => (by cases q), fun h es q => (by cases q), fun h o es pos q => (by cases q), fun h vals q => (by cases q), fun h es kws q => (by cases q), fun {k X sc ek} h tg e q => ⟨?_, Src.zip⟩⟩
    cases tg with
    | Tuple elts j tp =>
      cases e with
      | Call fe es kws p =>
        cases fe with
        | Name x p2 =>
          cases es with
          | nil => cases q
          | cons a r => cases r with
            | nil => cases q
            | cons b r2 => cases r2 with
              | cons _ _ => cases q
              | nil => cases kws with
                | cons _ _ => cases q
                | nil =>
                  have q : (decide (x = ("zip" : Str)) && glB sc x && g.bis.contains x && noStar [a, b] && chkE g N A sc a && chkE g N B sc b) = true := q
                  rw [Bool.and_eq_true, Bool.and_eq_true, Bool.and_eq_true, Bool.and_eq_true, Bool.and_eq_true] at q
                  obtain ⟨⟨⟨⟨⟨q1, q2⟩, q3⟩, q4⟩, q5⟩, q6⟩ := q
                  have e0 := of_decide_eq_true q1
                  subst e0
                  obtain ⟨s1, s2⟩ := star_cons (env := X.env) q4
                  exact DI.zip h.ft (gl_of h q2).1 (h.bis _ q3) (ha.e h a q5).1 (hb.e h b q6).1 s1 (star_cons s2).1
        | _ => cases q
      | _ => cases q
    | _ => cases q
  | isi A t ha =>
    refine ⟨fun {k X sc ek} h e q => ?_, fun h es q => (by cases q), fun h es q => (by cases q), fun h o es pos q => (by cases q), fun h vals q => (by cases q), fun h es kws q => (by cases q), fun h tg e q => (by cases q)⟩
    cases e with
    | Call fe es kws p =>
      cases fe with
      | Name f p2 =>
        cases es with
        | nil => cases q
        | cons a r => cases r with
          | nil => cases q
          | cons b r2 => cases b with
            | Name x p3 => cases r2 with
              | cons _ _ => cases q
              | nil => cases kws with
                | cons _ _ => cases q
                | nil =>
                    have q : (decide (f = ("isinstance" : Str)) && glB sc f && g.bis.contains f && glB sc x && g.bis.contains x && noStar [a] && tyB t x && chkE g N A sc a) = true := q
                    rw [Bool.and_eq_true, Bool.and_eq_true, Bool.and_eq_true, Bool.and_eq_true, Bool.and_eq_true, Bool.and_eq_true, Bool.and_eq_true] at q
                    obtain ⟨⟨⟨⟨⟨⟨⟨q1, q2⟩, q3⟩, q4⟩, q5⟩, q6⟩, q7⟩, q8⟩ := q
                    have e0 := of_decide_eq_true q1
                    subst e0
                    obtain ⟨g1, _⟩ := gl_of h q2
                    have s1 : starEach [a, .Name x p3] X.env = [(false, eval a X.env), (false, eval (.Name x p3) X.env)] := by
                      cases a <;> first
                        | rfl
                        | cases q6
                    have ty : TyName X (.Name x p3) t := by
                      unfold tyB at q7
                      cases t with
                      | pr n =>
                        cases hn : prN n with
                        | none => simp only [hn] at q7; cases q7
                        | some y =>
                          simp only [hn] at q7
                          have e1 := of_decide_eq_true q7
                          subst e1
                          exact tyname_of h hn q4 q5
                      | _ => cases q7
                    exact DE.both h (DE.isi h.ft g1 (h.bis _ q3) (ha.e h a q8).1 ty s1 rfl) rfl
            | _ => cases q
      | _ => cases q
    | _ => cases q
  | _ => exact ⟨fun h e q => (by cases q), fun h es q => (by cases q), fun h es q => (by cases q), fun h o es pos q => (by cases q), fun h vals q => (by cases q), fun h es kws q => (by cases q), fun h tg e q => (by cases q)⟩
end
end PD

/-! The checker's yes: statements. -/
namespace PD
open PySem PySem.Spec PyProof.Rows L2

def notComp : Expr → Bool
  | .ListComp _ _ _ _ => false
  | .SetComp _ _ _ _ => false
  | .DictComp _ _ _ _ _ => false
  | _ => true
/-- what a comprehension that is stored does to its name -/
def swapB (sc : Scope) (e : Expr) (x : Str) (p2 : Pos) : Bool := match e with
  | .ListComp _ _ s p => (sc.names.lookup x == some .local) && (p2.line == p.line) && !(s.names.any fun (n, k) => n == x && (k == .local || k == .cell))
  | _ => false
def isComp : E → Bool
  | .comp _ _ _ _ _ => true
  | .newl (.comp _ _ _ _ _) => true
  | _ => false
def isLC : Expr → Bool
  | .ListComp _ _ _ _ => true
  | _ => false
def swNames (sc : Scope) (ts : List Expr) : List Str := ts.filterMap fun
      | .Name id pos => if sc.names.lookup id == some .local && pos.line == (ts.head?.map (·.pos.line)).getD 0 then some id else none
      | _ => none
def anyStar (vs : List Expr) : Bool := vs.any fun | .Starred .. => true | _ => false
def swst (sc : Scope) (ts vs : List Expr) : Option (Option (List Str)) :=
  if (!(ts.length == 2 || ts.length == 3) || vs.length != ts.length) = true then some none
  else if anyStar vs = true then some none
  else if ((swNames sc ts).length != ts.length || (swNames sc ts).eraseDups.length != (swNames sc ts).length) = true then some none
  else if vs.all (foldedForSure 8) = true then some none
  else if vs.all (constantsAlone 8) = true then none
  else some (some (swNames sc ts))
def tupOf : Expr → Option (List Expr)
  | .Tuple es _ _ => some es
  | _ => none
/-- names are set side by side, or one by one from a tuple -/
def unpB (g : Gb) (N : List Str) (sc : Scope) (is : List Nat) (E : E) (ts : List Expr) (a : Expr) : Bool := match a with
  | .Tuple vs _ _ => (match swst sc ts vs with
    | some none => true
    | some (some _) => (match is, E, ts, vs with
      | [i, j], .tup (.cons A (.cons B .nil)), [.Name x _, .Name y _], [a, b] => decide (i ≠ j) && decide (swst sc ts vs = some (some [x, y])) && decide (sc.names.lookup x = some .local) && decide (sc.names.lookup y = some .local)
      | [i, j, l], .tup (.cons A (.cons B (.cons D .nil))), [.Name x _, .Name y _, .Name z _], [a, b, d] => decide (i ≠ j) && decide (i ≠ l) && decide (j ≠ l) && decide (swst sc ts vs = some (some [x, y, z])) && decide (sc.names.lookup x = some .local) && decide (sc.names.lookup y = some .local) && decide (sc.names.lookup z = some .local)
      | _, _, _, _ => false)
    | none => false)
  | _ => notComp a
def augOk : BOp → Bool
  | .add => true
  | .sub => true
  | .mul => true
  | _ => false
def yes : Str → Bool := fun _ => true
mutual
def chk1 (g : Gb) (N : List Str) : S → Scope → Stmt → Bool
  | .skip, sc, s => match s with
    | .Pass _ => true
    | .Expr (.Constant (.str _) _ _) _ => true
    | _ => false
  | .set i E, sc, s => match s with
    | .Assign [.Name x p2] a _ => nmB N sc yes i (.Name x p2) && chkE g N E sc a && (notComp a || (isLC a && (!swapB sc a x p2 || isComp E)))
    | _ => false
  | .unp is E, sc, s => match s with
    | .Assign [.Tuple ts _ _] a _ => nmsB N sc yes is ts && chkE g N E sc a && unpB g N sc is E ts a
    | _ => false
  | .sti o i v, sc, s => match s with
    | .Assign [.Subscript a b _] d _ => plainB b && chkE g N o sc a && chkE g N i sc b && chkE g N v sc d
    | _ => false
  | .stk o k v, sc, s => match s with
    | .Assign [.Subscript a (.Constant (.str k') _ _) _] d _ => decide (k = k') && chkE g N o sc a && chkE g N v sc d
    | _ => false
  | .aug k i E, sc, s => match s with
    | .AugAssign (.Name x p2) o a _ => nmB N sc yes i (.Name x p2) && decide (binO k = o) && augOk k && chkE g N E sc a
    | _ => false
  | .augi k o i E, sc, s => match s with
    | .AugAssign (.Subscript a b _) op d _ => plainB b && decide (binO k = op) && augOk k && chkE g N o sc a && chkE g N i sc b && chkE g N E sc d
    | _ => false
  | .exp E, sc, s => match s with
    | .Expr a _ => notComp a && chkE g N E sc a
    | _ => false
  | .ret E, sc, s => match s with
    | .Return (some a) _ => chkE g N E sc a
    | _ => false
  | .retn, sc, s => match s with
    | .Return none _ => true
    | _ => false
  | .ite c A B, sc, s => match s with
    | .If d s1 s2 _ => chkE g N c sc d && chkB g N A sc s1 && chkB g N B sc s2
    | _ => false
  | .whl c B, sc, s => match s with
    | .While d body [] _ => chkE g N c sc d && chkB g N B sc body
    | _ => false
  | .loop T G B, sc, s => match s with
    | .For tg iter body [] _ => chkI g N G sc tg iter && noSet iter && tgB N sc yes T tg && chkB g N B sc body
    | _ => false
  | .brk, sc, s => match s with
    | .Break _ => true
    | _ => false
  | .cnt, sc, s => match s with
    | .Continue _ => true
    | _ => false
  | .seq _ _, _, _ => false
def chkB (g : Gb) (N : List Str) : S → Scope → List Stmt → Bool
  | .skip, sc, ss => match ss with
    | [] => true
    | _ => false
  | .seq A B, sc, ss => match ss with
    | s :: r => chk1 g N A sc s && chkB g N B sc r
    | _ => false
  | _, _, _ => false
end

/-- a def's own body -/
structure CtxS (g : Gb) (N : List Str) (C : Cfg) (c : Cn) (k : Nat) (X : Cx) (sc : Scope) (ek : XK) : Prop extends Ctx g N C c k X sc ek where
  fnE : X.fn = fun _ => true
  own : PassesOwn (model X.prog X.w) X.A X.env X.xe
  kd : X.env.scope.kind = .function
section
variable {g : Gb} {N : List Str} {C : Cfg} {c : Cn} {k : Nat} {X : Cx} {sc : Scope} {ek : XK} {pos : Pos} {e a b : Expr} {es : List Expr}
theorem CtxS.bk (h : CtxS g N C c k X sc ek) : X.env.blockKind = .function := by
  unfold Env.blockKind
  rw [h.kd]
  rfl
theorem CtxS.yes (h : CtxS g N C c k X sc ek) : ∀ x, PD.yes x = true → X.fn x = true := fun x _ => by rw [h.fnE]
theorem slot_of (h : CtxS g N C c k X sc ek) {i : Nat} {x : Str} {p : Pos} (q : nmB N sc yes i (.Name x p) = true) : Slot X i x := by
  have q : (decide (N[i]? = some x) && (match sc.names.lookup x with
      | some .local => true
      | some .cell => yes x
      | _ => false)) = true := q
  rw [Bool.and_eq_true] at q
  obtain ⟨q1, q2⟩ := q
  refine ⟨by rw [h.N]; exact of_decide_eq_true q1, ?_, by rw [h.fnE]⟩
  cases e1 : sc.names.lookup x with
  | none => rw [e1] at q2; cases q2
  | some o =>
    rw [e1] at q2
    have e2 : X.env.scope.names.lookup x = some o := by rw [h.sc]; exact e1
    cases o with
    | «local» => exact .inl e2
    | cell => exact .inr e2
    | free => cases q2
    | globalExplicit => cases q2
    | globalImplicit => cases q2
theorem swap_no {t : Option Expr} {l : Nat} {env : Env} (q : notComp a = true) : swapsWith a t l env = pure false := by
  cases a <;> first
    | rfl
    | cases q
theorem swap_sub {d : Expr} {p : Pos} {l : Nat} {env : Env} : swapsWith a (some (.Subscript b d p)) l env = pure false := by
  cases a <;> rfl
theorem swap_tup {ts : List Expr} {j : Nat} {p : Pos} {l : Nat} {env : Env} : swapsWith a (some (.Tuple ts j p)) l env = pure false := by
  cases a <;> rfl
theorem sole_tup {ts : List Expr} {j : Nat} {p : Pos} {l : Nat} {env : Env} : swapsWithSole [.Tuple ts j p] a l env = pure false := by
  cases a <;> rfl
theorem sole_sub {d : Expr} {p : Pos} {l : Nat} {env : Env} : swapsWithSole [.Subscript b d p] a l env = pure false := by
  cases a <;> rfl
theorem swap_is (h : CtxS g N C c k X sc ek) {x : Str} {p2 : Pos} {l : Nat} (hc : isLC a = true) : swapsWith a (some (.Name x p2)) l X.env = pure (swapB sc a x p2) := by
  cases a with
  | ListComp elt gs s p =>
    show (pure (X.env.blockKind == .function && X.env.kindOf x == some .local && p2.line == p.line && !(s.names.any fun (n, k) => n == x && (k == .local || k == .cell))) : Sem Bool) = _
    unfold Env.kindOf swapB
    rw [h.bk, h.sc]
    rfl
  | _ => cases hc
theorem swst_is (h : CtxS g N C c k X sc ek) {ts vs : List Expr} {j j2 : Nat} {p p2 : Pos} {r : Option (List Str)} (q : swst sc ts vs = some r) : swappedStores [.Tuple ts j p] (.Tuple vs j2 p2) X.env = pure r := by
  have hb := h.bk
  unfold swst at q
  unfold swappedStores Env.kindOf
  rw [hb, h.sc]
  by_cases c1 : (!(ts.length == 2 || ts.length == 3) || vs.length != ts.length) = true
  · rw [if_pos c1] at q; cases q
    simp only [bne_self_eq_false, Bool.or_false]
    rw [if_pos c1]
  rw [if_neg c1] at q
  simp only [bne_self_eq_false, Bool.or_false]
  rw [if_neg c1]
  by_cases c2 : anyStar vs = true
  · rw [if_pos c2] at q; cases q
    exact (if_pos c2).trans rfl
  rw [if_neg c2] at q
  refine (if_neg c2).trans ?_
  by_cases c3 : ((swNames sc ts).length != ts.length || (swNames sc ts).eraseDups.length != (swNames sc ts).length) = true
  · rw [if_pos c3] at q; cases q
    exact (if_pos c3).trans rfl
  rw [if_neg c3] at q
  refine (if_neg c3).trans ?_
  by_cases c4 : vs.all (foldedForSure 8) = true
  · rw [if_pos c4] at q; cases q
    exact (if_pos c4).trans rfl
  rw [if_neg c4] at q
  refine (if_neg c4).trans ?_
  by_cases c5 : vs.all (constantsAlone 8) = true
  · rw [if_pos c5] at q; cases q
  rw [if_neg c5] at q
  cases q
  exact (if_neg c5).trans rfl
theorem newl_SE {A : E} {t : TE} (sa : SE c ek t (ev C A)) : SE c ek t (ev C (.newl A)) := by
  refine fun σ F la H en st Q re rs h => ?_
  refine sa σ F la H en st Q re rs (PostG.imp (PostG.bnd h) (fun r s1 _ q v F1 la1 H1 x1 s2 rr => ?_) fun _ _ _ z => z)
  cases r with
  | d d => exact q.elim
  | it _ _ => exact q.elim
  | fr xs =>
    obtain ⟨p, vs, rfl, h1, h2, h3, h4, t⟩ := rr
    obtain ⟨s3, m⟩ := cell_new (x := .lst xs) s2 h4 h3 ⟨vs, h1, t⟩
    refine q (.ref p) F1 (la1 ++ [p]) H1 ⟨x1.mono.trans m, x1.keep, x1.stay, x1.newF, fun b hb => ?_⟩ s3 (.loc (by rw [← s2.len, List.getElem?_append_right (Nat.le_refl _), Nat.sub_self]; rfl))
    rcases List.mem_append.mp hb with hb | hb
    · exact x1.newL b hb
    · rw [List.mem_singleton.mp hb]; exact .inr h2
theorem aug_of {k : BOp} (h : augOk k = true) : (k, binO k) ∈ augs := by
  cases k <;> first
    | (simp [augs, binO]; done)
    | cases h
theorem unp_sound (h : CtxS g N C c k X sc ek) {is : List Nat} {A : E} {ts : List Expr} {j : Nat} {p : Pos} (hn : nmsB N sc yes is ts = true) (ha : chkE g N A sc a = true) (q : unpB g N sc is A ts a = true) : DS X c ek (.Assign [.Tuple ts j p] a pos) (ex C (.unp is A)) := by
  have da := ((soundE A).e h.toCtx a ha).1
  obtain ⟨h1, h2, h3⟩ := pgs_of h.toCtx yes h.yes hn
  have pg : PG X (.Tuple ts j p) (gTup c.K is.length (gNames is)) := by
    have := pg_tup (pos := p) (k := j) h.ft.calm h1 h2 h3
    rw [h.ft.K] at this
    exact this
  have sw : swapsWithSole [.Tuple ts j p] a pos.line X.env = pure false := sole_tup
  have plain : swappedStores [.Tuple ts j p] a X.env = pure none → DS X c ek (.Assign [.Tuple ts j p] a pos) (ex C (.unp is A)) := fun z => DS.unp da pg sw z rfl
  cases a with
  | Tuple vs j2 p2 =>
    unfold unpB at q
    simp only at q
    cases e1 : swst sc ts vs with
    | none => rw [e1] at q; cases q
    | some o =>
      cases o with
      | none => exact plain (swst_is h e1)
      | some ns =>
        rw [e1] at q
        simp only at q
        split at q
        · rename_i A B x px y py a b
          simp only [Bool.and_eq_true, decide_eq_true_eq] at q
          obtain ⟨⟨⟨q1, q2⟩, q3⟩, q4⟩ := q
          obtain ⟨m1, m2⟩ := Bool.and_eq_true_iff.mp hn
          obtain ⟨m2, _⟩ := Bool.and_eq_true_iff.mp m2
          exact DS.par2 h.ft (slot_of h m1).at_ (slot_of h m2).at_ q1 (by rw [h.sc]; exact q3) (by rw [h.sc]; exact q4)
            ((soundE (.cons A (.cons B .nil))).l h.toCtx [a, b] ha).1 (by rw [swst_is h e1]; cases q2; rfl) sw
        · rename_i A B D x px y py z pz a b d
          simp only [Bool.and_eq_true, decide_eq_true_eq] at q
          obtain ⟨⟨⟨⟨⟨⟨q1, q2⟩, q3⟩, q4⟩, q5⟩, q6⟩, q7⟩ := q
          obtain ⟨m1, m2⟩ := Bool.and_eq_true_iff.mp hn
          obtain ⟨m2, m3⟩ := Bool.and_eq_true_iff.mp m2
          obtain ⟨m3, _⟩ := Bool.and_eq_true_iff.mp m3
          exact DS.par3 h.ft (slot_of h m1).at_ (slot_of h m2).at_ (slot_of h m3).at_ q1 q2 q3 (by rw [h.sc]; exact q5) (by rw [h.sc]; exact q6) (by rw [h.sc]; exact q7)
            ((soundE (.cons A (.cons B (.cons D .nil)))).l h.toCtx [a, b, d] ha).1 (by rw [swst_is h e1]; cases q4; rfl) sw
        · cases q
  | _ => exact plain (by first
    | rfl
    | cases q)
theorem set_sound {i : Nat} {A : E} {x : Str} {p2 p : Pos} (h : CtxS g N C c k X sc ek) (q : (nmB N sc yes i (.Name x p2) && chkE g N A sc a && (notComp a || (isLC a && (!swapB sc a x p2 || isComp A)))) = true) : DS X c ek (.Assign [.Name x p2] a p) (ex C (.set i A)) := by
  rw [Bool.and_eq_true, Bool.and_eq_true] at q
  obtain ⟨⟨q1, q2⟩, q3⟩ := q
  have sl := slot_of h q1
  by_cases n : notComp a = true
  · exact DS.set h.ft sl ((soundE A).e h.toCtx a q2).1 (swap_no n)
  rw [Bool.or_eq_true, Bool.and_eq_true, Bool.or_eq_true] at q3
  rcases q3 with q3 | ⟨q3, q4⟩
  · exact absurd q3 n
  have sw := swap_is (l := p.line) (p2 := p2) (x := x) h q3
  cases e1 : swapB sc a x p2 with
  | false => exact DS.set h.ft sl ((soundE A).e h.toCtx a q2).1 (by rw [sw, e1])
  | true =>
    rw [e1] at q4 sw
    have q4 : isComp A = true := by
      rcases q4 with z | z
      · cases z
      · exact z
    have lo : X.env.scope.names.lookup x = some .local := by
      rw [h.sc]
      cases a with
      | ListComp elt gs s p =>
        have e1 : ((sc.names.lookup x == some .local) && (p2.line == p.line) && !(s.names.any fun (n, k) => n == x && (k == .local || k == .cell))) = true := e1
        rw [Bool.and_eq_true, Bool.and_eq_true] at e1
        exact eq_of_beq e1.1.1
      | _ => cases q3
    match A, q2, q4 with
    | .comp B T G cond own, q2, _ =>
      obtain ⟨t, _, se, third⟩ := comp_sound (soundE B) (soundE G) (soundE cond) h.toCtx a q2
      exact ⟨_, third i x p2 p sl.at_ lo sw, set_SS se⟩
    | .newl (.comp B T G cond own), q2, _ =>
      have q2 : (isTest a && chkE g N (.comp B T G cond own) sc a) = true := q2
      rw [Bool.and_eq_true] at q2
      obtain ⟨t, _, se, third⟩ := comp_sound (soundE B) (soundE G) (soundE cond) h.toCtx a q2.2
      exact ⟨_, third i x p2 p sl.at_ lo sw, set_SS (newl_SE se)⟩
def tgAll : Tg → List Nat
  | .nm i => [i]
  | .tp is => is
theorem tg_all : ∀ {T : Tg}, tgIn (tgAll T) T = true
  | .nm i => List.contains_iff_mem.mpr (List.mem_singleton.mpr rfl)
  | .tp is => List.all_eq_true.mpr fun i hi => List.contains_iff_mem.mpr hi
theorem soundS : ∀ A : S, (∀ {k : Nat} {X : Cx} {sc : Scope} {ek : XK}, CtxS g N C c k X sc ek → ∀ s, chk1 g N A sc s = true → DS X c ek s (ex C A)) ∧
    (∀ {k : Nat} {X : Cx} {sc : Scope} {ek : XK}, CtxS g N C c k X sc ek → ∀ ss, chkB g N A sc ss = true → DSs X c ek ss (ex C A)) := by
  intro A
  induction A with
  | skip =>
    refine ⟨fun h s q => ?_, fun h ss q => ?_⟩
    · cases s with
      | Pass p => exact DS.pass
      | Expr e p =>
        cases e with
        | Constant cc j p2 =>
          cases cc with
          | str x => exact DS.doc
          | _ => cases q
        | _ => cases q
      | _ => cases q
    · cases ss with
      | nil => exact DSs.nil
      | cons _ _ => cases q
  | seq A B ha hb =>
    refine ⟨fun h s q => (by cases q), fun h ss q => ?_⟩
    cases ss with
    | nil => cases q
    | cons s r =>
      have q : (chk1 g N A _ s && chkB g N B _ r) = true := q
      rw [Bool.and_eq_true] at q
      exact DSs.cons (ha.1 h s q.1) (hb.2 h r q.2)
  | set i A =>
    refine ⟨fun {k X sc ek} h s q => ?_, fun h ss q => (by cases q)⟩
    cases s with
    | Assign ts a p =>
      cases ts with
      | nil => cases q
      | cons t r => cases r with
        | cons _ _ => cases t <;> cases q
        | nil => cases t with
          | Name x p2 => exact set_sound h q
          | _ => cases q
    | _ => cases q
  | unp is A =>
    refine ⟨fun {k X sc ek} h s q => ?_, fun h ss q => (by cases q)⟩
    cases s with
    | Assign ts a p =>
      cases ts with
      | nil => cases q
      | cons t r => cases r with
        | cons _ _ => cases t <;> cases q
        | nil => cases t with
          | Tuple es j p2 =>
            have q : (nmsB N sc yes is es && chkE g N A sc a && unpB g N sc is A es a) = true := q
            rw [Bool.and_eq_true, Bool.and_eq_true] at q
            exact unp_sound h q.1.1 q.1.2 q.2
          | _ => cases q
    | _ => cases q
  | sti o i v =>
    refine ⟨fun {k X sc ek} h s q => ?_, fun h ss q => (by cases q)⟩
    cases s with
    | Assign ts a p =>
      cases ts with
      | nil => cases q
      | cons t r => cases r with
        | cons _ _ => cases t <;> cases q
        | nil => cases t with
          | Subscript d b p2 =>
            have q : (plainB b && chkE g N o sc d && chkE g N i sc b && chkE g N v sc a) = true := q
            rw [Bool.and_eq_true, Bool.and_eq_true, Bool.and_eq_true] at q
            obtain ⟨⟨⟨q1, q2⟩, q3⟩, q4⟩ := q
            exact DS.sti ((soundE v).e h.toCtx a q4).1 ((soundE o).e h.toCtx d q2).1 ((soundE i).e h.toCtx b q3).1 sole_sub rfl rfl (fun v => by
              cases b <;> first
                | rfl
                | cases q1)
          | _ => cases q
    | _ => cases q
  | stk o kk v =>
    refine ⟨fun {k X sc ek} h s q => ?_, fun h ss q => (by cases q)⟩
    cases s with
    | Assign ts a p =>
      cases ts with
      | nil => cases q
      | cons t r => cases t with
          | Subscript d b p2 => cases b with
            | Constant cc j p3 => cases cc with
              | str k' => cases r with
                | cons _ _ => cases q
                | nil =>
                  have q : (decide (kk = k') && chkE g N o sc d && chkE g N v sc a) = true := q
                  rw [Bool.and_eq_true, Bool.and_eq_true] at q
                  obtain ⟨⟨q1, q2⟩, q3⟩ := q
                  have e0 := of_decide_eq_true q1
                  subst e0
                  exact DS.stk h.ft ((soundE v).e h.toCtx a q3).1 ((soundE o).e h.toCtx d q2).1 swap_sub
              | _ => cases q
            | _ => cases q
          | _ => cases q
    | _ => cases q
  | aug kk i A =>
    refine ⟨fun {k X sc ek} h s q => ?_, fun h ss q => (by cases q)⟩
    cases s with
    | AugAssign t o a p => cases t with
      | Name x p2 =>
        have q : (nmB N sc yes i (.Name x p2) && decide (binO kk = o) && augOk kk && chkE g N A sc a) = true := q
        rw [Bool.and_eq_true, Bool.and_eq_true, Bool.and_eq_true] at q
        obtain ⟨⟨⟨q1, q2⟩, q3⟩, q4⟩ := q
        have e0 := of_decide_eq_true q2
        subst e0
        exact DS.aug h.ft (slot_of h q1) (aug_of q3) ((soundE A).e h.toCtx a q4).1
      | _ => cases q
    | _ => cases q
  | augi kk o i A =>
    refine ⟨fun {k X sc ek} h s q => ?_, fun h ss q => (by cases q)⟩
    cases s with
    | AugAssign t op a p => cases t with
      | Subscript d b p2 =>
        have q : (plainB b && decide (binO kk = op) && augOk kk && chkE g N o sc d && chkE g N i sc b && chkE g N A sc a) = true := q
        rw [Bool.and_eq_true, Bool.and_eq_true, Bool.and_eq_true, Bool.and_eq_true, Bool.and_eq_true] at q
        obtain ⟨⟨⟨⟨⟨q1, q2⟩, q3⟩, q4⟩, q5⟩, q6⟩ := q
        have e0 := of_decide_eq_true q2
        subst e0
        exact DS.augi h.ft (aug_of q3) ((soundE o).e h.toCtx d q4).1 ((soundE i).e h.toCtx b q5).1 ((soundE A).e h.toCtx a q6).1 (fun ov iv new => by
          cases b <;> first
            | rfl
            | cases q1)
      | _ => cases q
    | _ => cases q
  | exp A =>
    refine ⟨fun {k X sc ek} h s q => ?_, fun h ss q => (by cases q)⟩
    cases s with
    | Expr a p =>
      have q : (notComp a && chkE g N A sc a) = true := q
      rw [Bool.and_eq_true] at q
      exact DS.exp ((soundE A).e h.toCtx a q.2).1 (swap_no q.1)
    | _ => cases q
  | ret A =>
    refine ⟨fun {k X sc ek} h s q => ?_, fun h ss q => (by cases q)⟩
    cases s with
    | Return o p => cases o with
      | none => cases q
      | some a => exact DS.ret ((soundE A).e h.toCtx a q).1
    | _ => cases q
  | retn =>
    refine ⟨fun {k X sc ek} h s q => ?_, fun h ss q => (by cases q)⟩
    cases s with
    | Return o p => cases o with
      | none => exact DS.retn
      | some a => cases q
    | _ => cases q
  | ite G A B ha hb =>
    refine ⟨fun {k X sc ek} h s q => ?_, fun h ss q => (by cases q)⟩
    cases s with
    | If d s1 s2 p =>
      have q : (chkE g N G sc d && chkB g N A sc s1 && chkB g N B sc s2) = true := q
      rw [Bool.and_eq_true, Bool.and_eq_true] at q
      exact DS.ite ((soundE G).e h.toCtx d q.1.1).2 (ha.2 h s1 q.1.2) (hb.2 h s2 q.2)
    | _ => cases q
  | whl G B hb =>
    refine ⟨fun {k X sc ek} h s q => ?_, fun h ss q => (by cases q)⟩
    cases s with
    | While d body r p => cases r with
      | cons _ _ => cases q
      | nil =>
        have q : (chkE g N G sc d && chkB g N B sc body) = true := q
        rw [Bool.and_eq_true] at q
        exact DS.whl h.own ((soundE G).e h.toCtx d q.1).2 (hb.2 h body q.2)
    | _ => cases q
  | loop T G B hb =>
    refine ⟨fun {k X sc ek} h s q => ?_, fun h ss q => (by cases q)⟩
    cases s with
    | For tg iter body r p => cases r with
      | cons _ _ => cases q
      | nil =>
        have q : (chkI g N G sc tg iter && noSet iter && tgB N sc yes T tg && chkB g N B sc body) = true := q
        rw [Bool.and_eq_true, Bool.and_eq_true, Bool.and_eq_true] at q
        obtain ⟨⟨⟨q1, q2⟩, q3⟩, q4⟩ := q
        obtain ⟨di, src⟩ := (soundE G).i h.toCtx tg iter q1
        obtain ⟨pg, sg⟩ := tg_of (own := tgAll T) h.toCtx yes h.yes tg_all q3
        exact DS.loop h.own h.ft di pg sg (hb.2 h body q4) (fun x => set_of q2) src
    | _ => cases q
  | brk =>
    refine ⟨fun {k X sc ek} h s q => ?_, fun h ss q => (by cases q)⟩
    cases s with
    | Break p => exact DS.brk
    | _ => cases q
  | cnt =>
    refine ⟨fun {k X sc ek} h s q => ?_, fun h ss q => (by cases q)⟩
    cases s with
    | Continue p => exact DS.cnt
    | _ => cases q
end
end PD

/-! A def, by its text. -/
namespace PD
open PySem PySem.Spec PyProof.Rows L2
section
variable {c : Cn} {F F' H H' : Hp} {la la' : List Addr} {st st' : Store}
mutual
theorem Fz.cutLa {n : Nat} (h : ∀ m a, m < n → la'[m]? = some a → la[m]? = some a) : ∀ {v : V} {d : D}, Fz c F la' v d → d.low n = true → Fz c F la v d
  | _, _, .non, _ => .non
  | _, _, .bl b, _ => .bl b
  | _, _, .int i, _ => .int i
  | _, _, .str x, _ => .str x
  | _, _, .tup q t, l => .tup q (FzL.cutLa h t (by unfold D.low at l; exact l))
  | _, _, .lst q t, l => .lst q (FzL.cutLa h t (by unfold D.low at l; exact l))
  | _, _, .scr q t, l => .scr q (FzL.cutLa h t (by unfold D.low at l; exact l))
  | _, _, .dct q e t, l => .dct q e (FzL.cutLa h t (by unfold D.low at l; exact l))
  | _, _, .ins q e z t, l => .ins q e z (FzL.cutLa h t (by unfold D.low at l; exact l))
  | _, _, .loc q, l => .loc (h _ _ (by unfold D.low at l; exact of_decide_eq_true l) q)
theorem FzL.cutLa {n : Nat} (h : ∀ m a, m < n → la'[m]? = some a → la[m]? = some a) : ∀ {vs : List V} {ds : List D}, FzL c F la' vs ds → lowL n ds = true → FzL c F la vs ds
  | _, _, .nil, _ => .nil
  | _, _, .cons r t, l => by
    unfold lowL at l
    rw [Bool.and_eq_true] at l
    exact .cons (Fz.cutLa h r l.1) (FzL.cutLa h t l.2)
end
mutual
theorem Fz.low : ∀ {v : V} {d : D}, Fz c F la v d → d.low la.length = true
  | _, _, .non => by unfold D.low; rfl
  | _, _, .bl b => by unfold D.low; rfl
  | _, _, .int i => by unfold D.low; rfl
  | _, _, .str x => by unfold D.low; rfl
  | _, _, .tup _ t => by unfold D.low; exact FzL.low t
  | _, _, .lst _ t => by unfold D.low; exact FzL.low t
  | _, _, .scr _ t => by unfold D.low; exact FzL.low t
  | _, _, .dct _ _ t => by unfold D.low; exact FzL.low t
  | _, _, .ins _ _ _ t => by unfold D.low; exact FzL.low t
  | _, _, .loc q => by
    unfold D.low
    exact decide_eq_true (List.getElem?_eq_some_iff.mp q).1
theorem FzL.low : ∀ {vs : List V} {ds : List D}, FzL c F la vs ds → lowL la.length ds = true
  | _, _, .nil => by unfold lowL; rfl
  | _, _, .cons r t => by
    unfold lowL
    rw [Fz.low r, FzL.low t]; rfl
end
theorem CellIs.low {a : Addr} : ∀ {x : Cell}, CellIs c F la H a x → x.low la.length = true
  | .lst _, ⟨_, _, t⟩ => t.low
  | .dct _ _, ⟨_, _, _, t⟩ => t.low
  | .obj _ _ _, ⟨_, _, _, _, _, _, t⟩ => t.low
theorem CellIs.cutLa {n : Nat} {a : Addr} (h : ∀ m a, m < n → la'[m]? = some a → la[m]? = some a) : ∀ {x : Cell}, CellIs c F la' H a x → x.low n = true → CellIs c F la H a x
  | .lst _, ⟨vs, e, t⟩, l => ⟨vs, e, t.cutLa h l⟩
  | .dct _ _, ⟨vs, e, l2, t⟩, l => ⟨vs, e, l2, t.cutLa h l⟩
  | .obj _ _ _, ⟨C, dx, vs, e, l2, q, t⟩, l => ⟨C, dx, vs, e, l2, q, t.cutLa h l⟩
theorem oldOk_get (n : Nat) : ∀ {s s' : Store} {i : Nat} {x x' : Cell}, oldOk n s s' = true → s[i]? = some x → s'[i]? = some x' → x' = x ∨ x'.low n = true
  | [], _, _, _, _, _, e, _ => by simp at e
  | _ :: _, [], _, _, _, _, _, e => by simp at e
  | c :: s, c' :: s', 0, x, x', h, e, e' => by
    unfold oldOk at h
    rw [Bool.and_eq_true, Bool.or_eq_true] at h
    simp at e e'
    subst e; subst e'
    rcases h.1 with h | h
    · exact .inl (Cell.of_beq h).symm
    · exact .inr h
  | c :: s, c' :: s', i + 1, x, x', h, e, e' => by
    unfold oldOk at h
    rw [Bool.and_eq_true] at h
    exact oldOk_get n h.2 (by simpa using e) (by simpa using e')
theorem oldOk_len (n : Nat) : ∀ {s s' : Store}, oldOk n s s' = true → s.length ≤ s'.length
  | [], _, _ => Nat.zero_le _
  | _ :: _, [], h => by cases h
  | c :: s, c' :: s', h => by
    unfold oldOk at h
    rw [Bool.and_eq_true] at h
    exact Nat.succ_le_succ (oldOk_len n h.2)
theorem pre_take (x : Mono F la F' la') : la'.take la.length = la := by
  refine List.ext_getElem? fun i => ?_
  by_cases h : i < la.length
  · rw [List.getElem?_take_of_lt h]
    exact (x.pre i _ (List.getElem?_eq_getElem h)).trans (List.getElem?_eq_getElem h).symm
  · rw [List.getElem?_eq_none (by rw [List.length_take]; omega), List.getElem?_eq_none (by omega)]
/-- a def's own cells go -/
theorem cut_st (rs0 : StRel c F la H st) (x : Ext F la H F' la' H') (rs : StRel c F' la' H' st') (ho : oldOk st.length st st' = true) : StRel c F' la H' (st'.take st.length) ∧ Ext F la H F' la H' := by
  have hn : ∀ m a, m < st.length → la'[m]? = some a → la[m]? = some a := fun m a hm e => by
    have : m < la.length := by rw [rs0.len]; exact hm
    rw [x.mono.pre m _ (List.getElem?_eq_getElem this)] at e
    rw [← e]; exact List.getElem?_eq_getElem this
  have hl := oldOk_len _ ho
  refine ⟨⟨by rw [List.length_take, rs0.len]; omega, rs0.nd, fun a ha => ?_, rs.sub, fun n a y h1 h2 => ?_⟩, ⟨⟨x.mono.fz, fun _ _ h => h⟩, x.keep, x.stay, x.newF, fun a h => .inl h⟩⟩
  · obtain ⟨n, hn', e⟩ := List.mem_iff_getElem.mp ha
    have h1 : la[n]? = some a := by rw [List.getElem?_eq_getElem hn', e]
    exact rs.free a (List.mem_of_getElem? (x.mono.pre n a h1))
  · have hlt : n < st.length := by rw [← rs0.len]; exact (List.getElem?_eq_some_iff.mp h1).1
    rw [List.getElem?_take_of_lt hlt] at h2
    have q := rs.at_ n a y (x.mono.pre n a h1) h2
    refine q.cutLa hn ?_
    rcases oldOk_get _ ho (List.getElem?_eq_getElem hlt) h2 with e | e
    · rw [e, ← rs0.len]
      exact (rs0.at_ n a _ h1 (List.getElem?_eq_getElem hlt)).low
    · exact e
/-- the end of a def -/
theorem end_call {keep : Bool} {d : D} {E : XK} {Q : VK} (rs0 : StRel c F la H st) (h : PostG (endCall keep st d st') (fun d st' => ∀ v F' la' H', Ext F la H F' la' H' → StRel c F' la' H' st' → Fz c F' la' v d → Q v H') (PostX c E F la H))
    (x : Ext F la H F' la' H') (rs : StRel c F' la' H' st') {v : V} (q : Fz c F' la' v d) : Q v H' := by
  unfold endCall at h
  by_cases e : (keep || st'.length == st.length) = true
  · rw [if_pos e] at h
    exact h v F' la' H' x rs q
  rw [if_neg e] at h
  have hlen : ¬ st'.length = st.length := fun z => e (by rw [z]; simp)
  have hn : ∀ m a, m < st.length → la'[m]? = some a → la[m]? = some a := fun m a hm e => by
    have : m < la.length := by rw [rs0.len]; exact hm
    rw [x.mono.pre m _ (List.getElem?_eq_getElem this)] at e
    rw [← e]; exact List.getElem?_eq_getElem this
  have plain : d.low st.length = true → oldOk st.length st st' = true → PostG (.ok d (st'.take st.length)) (fun d st' => ∀ v F' la' H', Ext F la H F' la' H' → StRel c F' la' H' st' → Fz c F' la' v d → Q v H') (PostX c E F la H) → Q v H' := fun l o h => by
    obtain ⟨s1, x1⟩ := cut_st rs0 x rs o
    exact h v F' la H' x1 s1 (q.cutLa hn l)
  cases d with
  | loc m =>
    by_cases hm : m < st.length
    · simp only [hm, if_true] at h
      split at h
      · rename_i l
        rw [Bool.and_eq_true] at l
        exact plain l.1 l.2 h
      · exact h.elim
    · simp only [hm, if_false] at h
      cases e1 : st'[m]? with
      | none =>
        cases q with
        | loc q =>
          have : m < la'.length := (List.getElem?_eq_some_iff.mp q).1
          rw [rs.len] at this
          rw [List.getElem?_eq_getElem this] at e1
          cases e1
      | some y =>
        cases y with
        | lst xs =>
          rw [e1] at h
          simp only at h
          split at h
          · rename_i l
            rw [Bool.and_eq_true] at l
            obtain ⟨s1, x1⟩ := cut_st rs0 x rs l.2
            cases q with
            | @loc _ p q =>
            obtain ⟨vs, h1, t⟩ := rs.at_ m p _ q e1
            have hF := rs.free p (List.mem_of_getElem? q)
            have hp : p ∉ la := fun z => by
              obtain ⟨i, hi, ei⟩ := List.mem_iff_getElem.mp z
              have h2 : la'[i]? = some p := x.mono.pre i p (by rw [List.getElem?_eq_getElem hi, ei])
              have h3 := (List.getElem?_inj (List.getElem?_eq_some_iff.mp h2).1 rs.nd).mp (h2.trans q.symm)
              rw [h3, rs0.len] at hi
              exact hm hi
            have h0 : H p = none := by
              rcases x.newL p (List.mem_of_getElem? q) with z | z
              · exact absurd z hp
              · exact z
            obtain ⟨m1, s2⟩ := ext_freeze s1 h1 hF hp
            have l1 : lowL st.length xs = true := by
              have := l.1
              unfold D.low at this
              exact this
            refine h (.ref p) (upd F' p (.lst vs)) la H' ⟨⟨fun a o z => m1.fz a o (x.mono.fz a o z), fun _ _ z => z⟩, x1.keep, x1.stay, fun b o z => ?_, x1.newL⟩ s2 (.lst upd_same ((t.cutLa hn l1).mono m1))
            by_cases qq : b = p
            · rw [qq]; exact .inr h0
            · rw [upd_ne qq] at z; exact x.newF b o z
          · exact h.elim
        | dct _ _ =>
          rw [e1] at h
          simp only at h
          split at h
          · rename_i l
            rw [Bool.and_eq_true] at l
            exact plain l.1 l.2 h
          · exact h.elim
        | obj _ _ _ =>
          rw [e1] at h
          simp only at h
          split at h
          · rename_i l
            rw [Bool.and_eq_true] at l
            exact plain l.1 l.2 h
          · exact h.elim
  | _ =>
    simp only at h
    split at h
    · rename_i l
      rw [Bool.and_eq_true] at l
      exact plain l.1 l.2 h
    · exact h.elim
/-- an error goes out of a def -/
theorem end_exc {keep : Bool} {e : Nat} {xs : List D} {E : XK} {P : D → Store → Prop} (rs0 : StRel c F la H st) (h : PostG (endFl keep st (.exc e xs st')) P (PostX c E F la H)) : PostX c E F la H e xs st' := by
  intro C dx F' la' H' x rs q
  have h : PostG (if (keep || st'.length == st.length) = true then .exc e xs st' else
      if (lowL st.length xs && oldOk st.length st st') = true then .exc e xs (st'.take st.length) else .bad) P (PostX c E F la H) := h
  split at h
  · exact h C dx F' la' H' x rs q
  split at h
  · rename_i l
    rw [Bool.and_eq_true] at l
    obtain ⟨s1, x1⟩ := cut_st rs0 x rs l.2
    have hn : ∀ m a, m < st.length → la'[m]? = some a → la[m]? = some a := fun m a hm e => by
      have : m < la.length := by rw [rs0.len]; exact hm
      rw [x.mono.pre m _ (List.getElem?_eq_getElem this)] at e
      rw [← e]; exact List.getElem?_eq_getElem this
    refine h C dx F' la H' x1 s1 ?_
    obtain ⟨Ca, ns, e1, e2, e3, e4⟩ := q
    refine ⟨Ca, ns, e1, e2, e3, ?_⟩
    cases xs with
    | nil => exact e4
    | cons a r =>
      obtain ⟨d, vs, h1, h2, h3, t⟩ := e4
      exact ⟨d, vs, h1, h2, h3, t.cutLa hn l.1⟩
  · exact h.elim
/-- a def's body, as its promise -/
theorem end_body {fn : Fn} {D' : Ends} {o : Out Fl} {E : XK} {Q : VK} (rs0 : StRel c F la H st) (hD : D' = { nx := fun _ H' => Q .non H', rt := Q })
    (h : PostG (endFl fn.keep st o) (fun d st' => ∀ v F' la' H', Ext F la H F' la' H' → StRel c F' la' H' st' → Fz c F' la' v d → Q v H') (PostX c E F la H)) : PostS c E F la H D' o := by
  subst hD
  cases o with
  | bad => exact h.elim
  | exc e xs s => exact end_exc rs0 h
  | ok fl s =>
    intro F' la' H' x rs
    cases fl with
    | nx en => exact fun σ _ => end_call rs0 h x rs .non
    | rt d => exact fun v q => end_call rs0 h x rs q
    | bk en => exact h.elim
    | ct en => exact h.elim
theorem en_start {N : List Str} {vs : List V} {ds : List D} {fn : Fn} (q : FzL c F la vs ds) (hd : ds.length = fn.np) (hN : N.length = fn.ns) : EnRel c F la (start N vs) (entry fn ds) := by
  have hl : vs.length = fn.np := q.length.trans hd
  refine ⟨?_, fun i d h => ?_⟩
  · unfold L2.start entry
    rw [List.length_append, List.length_append, List.length_map, List.length_map, List.length_replicate, List.length_replicate, q.length, hN, hd]
  · unfold entry at h
    have hi : i < ds.length := by
      by_cases z : i < ds.length
      · exact z
      · rw [List.getElem?_append_right (by rw [List.length_map]; omega), List.getElem?_replicate] at h
        split at h <;> cases h
    rw [List.getElem?_append_left (by rw [List.length_map]; exact hi), List.getElem?_map] at h
    cases e : ds[i]? with
    | none => rw [e] at h; cases h
    | some d' =>
      rw [e] at h
      cases h
      obtain ⟨v, h1, h2⟩ := q.get e
      refine ⟨v, ?_, h2⟩
      unfold L2.start
      rw [List.getElem?_append_left (by rw [List.length_map, q.length]; exact hi), List.getElem?_map, h1]
      rfl
/-- THE RULE: a def by its text -/
theorem fnG_of {P : Program} {w : World} {K : PySem.W.Frag} {mg : Str → Option Value} {base : Heap} {k i : Nat} {f : Addr} {name qual : Str} {params : Arguments} {body : List Stmt} {scope : Scope} {dV kV doc pm cdv ct oc : Value} {an od : Option Addr}
    {osl : Array (Option Value)} {N ps : List Str} {g : Gb} {fns : List Fn} {fn : Fn} (lk : K.lookup f = some ⟨oc, od, .func (PySem.W.fnOf name qual params body scope dV kV doc pm an cdv ct), osl⟩) (hcd : PySem.W.codeIn K cdv qual = true) (S : FnScope N ps scope) (hK : K = c.K)
    (hf : fns[i]? = some fn) (hN : N.length = fn.ns) (hp : ps.length = fn.np) (chk : chkB g N fn.body scope body = true)
    (hfns : ∀ X : Cx, X.prog = P → X.w = w → X.K = K → X.mg = mg → X.base = base → ∀ x j, g.fns.lookup x = some j → FnAt g c X k { call := callF fns k } x j)
    (hbis : ∀ x, g.bis.contains x = true → mg x = none) (hcons : ∀ x d, g.cons.lookup x = some d → ∃ u v, mg x = some u ∧ RelV v u ∧ ∀ F la, Fz c F la v d) :
    FnG P w K mg base (k + 1) f (PySem.W.fnOf name qual params body scope dV kV doc pm an cdv ct) ps (spG c (callF fns (k + 1) i)) := by
  have wf : ∀ ds st, callF fns (k + 1) i ds st = if ds.length = fn.np then endFl fn.keep st (ex { call := callF fns k } fn.body (entry fn ds) st) else .bad := fun ds st => by
    show (match fns[i]? with
      | none => badM
      | some fn => fun st => if ds.length = fn.np then endFl fn.keep st (ex { call := callF fns k } fn.body (entry fn ds) st) else .bad) st = _
    rw [hf]
  have len : ∀ vs H Q E, spG c (callF fns (k + 1) i) vs H Q E → vs.length = ps.length := fun vs H Q E h => by
    obtain ⟨F, la, st, ds, q, rs, h⟩ := h
    rw [wf] at h
    split at h
    · rename_i e
      rw [q.length, e, hp]
    · exact h.elim
  refine ⟨len, fun A outer s H args us vs Q E hr hgd e0 hb r hsp => ?_⟩
  have hl := len _ _ _ _ hsp
  have KX : K.In s.heap := e0.mod.kin.keeps fun b o e => (e0.bs b o e).1
  have lim : s.heap.NoLimit := e0.mod.nolimit.keeps fun b o e => (e0.bs b o e).1
  have hkind : ∀ y ∈ ps.zip us, scope.names.lookup y.1 = some .local ∨ (scope.names.lookup y.1 = some .cell ∧ ((cellsFrom (s.heap.objs.size + 1) scope.names []).lookup y.1).isSome = true) := fun ⟨n, v⟩ hy => by
    rcases S.par n (List.of_mem_zip hy).1 with q | q
    · exact .inl q
    · exact .inr ⟨q, PySem.W.cellsFrom_some _ _ _ (.inl q)⟩
  refine codeAny_call_function hr.depth (KX _ _ lk) rfl S.co S.gen rfl (PySem.W.codeRec_of KX hcd) (hb _ _ _ _ ?_)
  refine wpAny_newFunctionEnv_cells S.kind hkind fun env he s1 x => ?_
  subst he
  refine ⟨lim.keeps x.toInCall.keep, codeAny_func ?_⟩
  obtain ⟨F, la, st, ds, q, rs, h⟩ := hsp
  rw [wf] at h
  have hd : ds.length = fn.np := by rw [← q.length, hl, hp]
  rw [if_pos hd] at h
  have hc : CtxS g N { call := callF fns k } c k (cxOf (L2.CX P w) P w K mg base N qual scope f cdv A outer s H E) scope E := {
    ft := ⟨hK, rfl, S.nd, by have := (hr.deeper (envOfC qual scope s.heap.objs.size f cdv)).un; show A.units + 3 + 100 < cLine; have e : (A.deeper (envOfC qual scope s.heap.objs.size f cdv)).units = A.units + 3 := rfl; rw [e] at this; omega, hgd⟩
    N := rfl
    sc := rfl
    room := hr.deeper _
    pass := passes_call (takes_of rfl rfl rfl rfl) fun _ _ _ _ h => h
    fns := hfns _ rfl rfl rfl rfl rfl
    bis := hbis
    cons := hcons
    fnE := rfl
    own := passes_of rfl
    kd := S.kind }
  obtain ⟨t, ht, ss⟩ := (soundS fn.body).2 hc body chk
  have hq := ss (start N vs) F la H (entry fn ds) st { nx := fun _ H' => Q .non H', rt := Q } (en_start q hd hN) rs (end_body (fn := fn) rs rfl h)
  have I : Inv (cxOf (L2.CX P w) P w K mg base N qual scope f cdv A outer s H E) [] (start N vs) H s1 := inv_start S hr.hd e0 hl r x
  refine wpAny_mono (ht.run [] s1 (start N vs) H _ I hq) (fun fl s' hs => ?_) fun e s' hs => hs
  have fin : ∀ {σ' : L2.St} {H' : Hp} {v : V} {u : Value}, Inv (cxOf (L2.CX P w) P w K mg base N qual scope f cdv A outer s H E) [] σ' H' s' → RelV v u → Q v H' → CE outer P w H s Q u s' :=
    fun {σ' H' v u} J rv q => ⟨v, H', J.os, J.bare, J.base, J.hok, rv, q⟩
  cases fl with
  | ret u =>
    obtain ⟨v, σ', H', J, rv, q⟩ := hs
    exact fin J rv q
  | next =>
    obtain ⟨σ', H', J, q⟩ := hs
    exact fin (v := V.non) (u := Value.none) J rfl q
  | brk =>
    obtain ⟨_, _, _, q⟩ := hs
    exact False.elim q
  | cont =>
    obtain ⟨_, _, _, q⟩ := hs
    exact False.elim q
end
end PD

/-! The table of defs, and a law's end. -/
namespace PD
open PySem PySem.Spec PyProof.Rows L2

/-! ### the table -/
/-- what is known of a def of the module -/
structure DefAt (c : Cn) (K : PySem.W.Frag) (mg : Str → Option Value) (g : Gb) (fns : List Fn) (x : Str) (j : Nat) (f : Addr) (fd : FuncData) (ps : List Str) : Prop where
  ex : ∃ (st : Stmt) (N : List Str) (fn : Fn), C8.Def K mg x st f fd ∧ FnScope N ps (C8.fnScope st) ∧ fns[j]? = some fn ∧ N.length = fn.ns ∧ ps.length = fn.np ∧ chkB g N fn.body (C8.fnScope st) (C8.fnBody st) = true
  bind : ∀ (s : Shared) (us : List Value), K.In s.heap → us.length = ps.length → BindsTo s fd ⟨us, []⟩ (ps.zip us)
  kbind : ∀ e ∈ g.kbs, e.1 = j → ∀ (s : Shared) (us ws : List Value), K.In s.heap → us.length = e.2.1 → ws.length = e.2.2.1.length → BindsTo s fd ⟨us, e.2.2.1.zip ws⟩ (ps.zip (permU (us ++ ws) e.2.2.2))
structure Table (c : Cn) (K : PySem.W.Frag) (mg : Str → Option Value) (g : Gb) (fns : List Fn) : Prop where
  eK : K = c.K
  defs : ∀ x j, g.fns.lookup x = some j → ∃ f fd ps, DefAt c K mg g fns x j f fd ps
  bis : ∀ x, g.bis.contains x = true → mg x = none
  cons : ∀ x d, g.cons.lookup x = some d → ∃ u v, mg x = some u ∧ RelV v u ∧ ∀ F la, Fz c F la v d
section
variable {c : Cn} {P : Program} {w : World} {K : PySem.W.Frag} {mg mb : Str → Option Value} {base : Heap} {g : Gb} {fns : List Fn}
theorem Table.fn (T : Table c K mg g fns) : ∀ (k : Nat) {x : Str} {j : Nat} {f : Addr} {fd : FuncData} {ps : List Str}, DefAt c K mg g fns x j f fd ps → FnG P w K mg base k f fd ps (spG c (callF fns k j))
  | 0, _, _, _, _, _, _ => ⟨fun vs H Q E ⟨_, _, _, _, _, _, h⟩ => h.elim, fun _ _ _ _ _ _ _ _ _ _ _ _ _ _ ⟨_, _, _, _, _, _, h⟩ => h.elim⟩
  | k + 1, x, j, f, fd, ps, D => by
    obtain ⟨st, N, fn, d, S, hf, hN, hp, chk⟩ := D.ex
    obtain ⟨oc, od, dV, kV, doc, pm, an, cdv, ct, osl, rfl, lk, hcd⟩ := d.fn.ex
    refine fnG_of lk hcd S T.eK hf hN hp chk (fun X e1 e2 e3 e4 e5 y i hy => ?_) T.bis T.cons
    obtain ⟨f', fd', ps', D'⟩ := T.defs y i hy
    obtain ⟨st', N', fn', d', _⟩ := D'.ex
    refine ⟨f', fd', ps', by rw [e4]; exact d'.mgf, by rw [e3]; exact d'.kp, ?_, (fun s us hk => D'.bind s us (by rw [← e3]; exact hk)), fun n ks perm hm s us ws hk => D'.kbind _ hm rfl s us ws (by rw [← e3]; exact hk)⟩
    show FnG X.prog X.w X.K X.mg X.base k f' fd' ps' (spG c (callF fns k i))
    rw [e1, e2, e3, e4, e5]
    exact Table.fn T k D'

/-! ### the law -/
/-- the script's own heap: at most one object, the list itself, and it does not change -/
structure AtTop (P : Program) (w : World) (K : PySem.W.Frag) (s : Shared) (a : Addr) (ns : List Int) (H : Hp) : Prop where
  only : Only H
  sq : SqL K H a (ns.map V.int)
  ok : HOk P w H s.heap
  one : ∀ b, H b ≠ none → b = a
  out : H a ≠ none → K.lookup a = none
theorem atTop {s : Shared} {a : Addr} {vs : List Value} {ns : List Int} (KX : K.In s.heap) (ha : s.heap.get? a = some { cls := .type "list", data := .seq vs.toArray }) (hi : IntsAre vs ns) (hl : ns.length ≤ sizeLine) : ∃ H, AtTop P w K s a ns H := by
  have rv := vals_ints hi
  cases hk : K.lookup a with
  | some o =>
    have e := (KX a o hk).symm.trans ha
    cases e
    exact ⟨fun _ => none, fun _ => .inl rfl, .inr ⟨_, vs.toArray, _, hk, rfl, rfl, rfl, by rw [List.size_toArray, hi.length]; exact hl, by simpa using rv⟩, fun _ _ z => (nomatch z), fun _ z => absurd rfl z, fun z => absurd rfl z⟩
  | none =>
    let it : HO := .frz { cls := .type "list", data := .seq vs.toArray } (.lst (ns.map V.int))
    have self : upd (fun _ => none) a it a = some it := upd_same
    refine ⟨upd (fun _ => none) a it, fun b => ?_, .inl (.inr ⟨_, self⟩), fun b u z => ?_, fun b z => ?_, fun _ => hk⟩
    · by_cases q : b = a
      · rw [q]; exact .inr ⟨_, _, self⟩
      · exact .inl (upd_ne q)
    · by_cases q : b = a
      · subst q
        rw [self] at z
        cases z
        exact ⟨ha, by rw [List.length_map]; exact hl, vs, _, rv, ha⟩
      · rw [upd_ne q] at z; cases z
    · by_cases q : b = a
      · exact q
      · exact absurd (upd_ne q) z
theorem law_run {x0 : Str} {k j : Nat} {fa a : Addr} {fd : FuncData} {x : Str} {s : Shared} {vs : List Value} {ns : List Int} (T : Table c K mg g fns) (W : DefAt c K mg g fns x j fa fd [x0])
    (KX : K.In s.heap) (hns : s.heap.Ns mainGlobals mg) (hb : s.heap.Ns builtinsNs mb) (hbb : ∀ x : Str, x ≠ "__name__" → mb x = bootBuiltins x) (hlim : s.heap.NoLimit) (hg : s.gens = #[])
    (ha : s.heap.get? a = some { cls := .type "list", data := .seq vs.toArray }) (hi : IntsAre vs ns) (hl : ns.length ≤ sizeLine) (hr : Room k callerA)
    (hlaw : ∃ st', callF fns k j [.scr (ns.map D.int)] [] = .ok (.bl true) st') :
    codeAny (model P w) callerA (.call (.ref fa) ⟨[.ref a], []⟩) (fun r s' => r = .ok (.ret (.bool true)) ∧ OldK s.heap s'.heap ∧ s'.os = s.os ∧ AllBare s'.gens) s := by
  obtain ⟨H, t⟩ := atTop (P := P) (w := w) KX ha hi hl
  have free : ∀ {b : Addr} {o : Obj}, s.heap.get? b = some o → o ≠ { cls := .type "list", data := .seq vs.toArray } → H b = none := fun {b o} e n => by
    cases q : H b with
    | none => rfl
    | some u =>
      have := t.one b (by rw [q]; exact fun z => nomatch z)
      subst this
      exact absurd (Option.some.inj (e.symm.trans ha)) n
  have keepK : ∀ {b : Addr} {o : Obj}, K.lookup b = some o → H b = none := fun {b o} e => by
    cases q : H b with
    | none => rfl
    | some u =>
      have z := t.one b (by rw [q]; exact fun z => nomatch z)
      subst z
      have z2 := t.out (by rw [q]; exact fun z => nomatch z)
      rw [e] at z2; cases z2
  have nsB : ∀ {b : Addr} {m : Str → Option Value}, s.heap.Ns b m → (hidT s.heap H).Ns b m := fun {b m} ⟨o, es, ep, e, d, r⟩ =>
    ⟨o, es, ep, hidT_get e (free e fun z => by rw [z] at d; cases d), d, r⟩
  have inB : K.In (hidT s.heap H) := fun b o e => hidT_get (KX b o e) (keepK e)
  obtain ⟨mc, l1, l2⟩ := hlim
  have md : Mod K mg (hidT s.heap H) := { kin := inB, glob := nsB hns, blt := ⟨mb, nsB hb, hbb⟩, nolimit := ⟨mc, nsB l1, l2⟩ }
  have e0 : Env0 P w K mg (hidT s.heap H) callerA [] s H := ⟨rfl, md, fun b o e => of_hidT e, Nat.le_of_eq (hidT_size _ _), trivial, fun b hb => (List.not_mem_nil hb).elim, t.ok, .of_eq hg⟩
  have G := T.fn (P := P) (w := w) (base := hidT s.heap H) k W
  -- the script, as the small language has it
  have fzL : ∀ {F : Hp} {la : List Addr} (ns : List Int), FzL c F la (ns.map V.int) (ns.map D.int) := fun {F la} ns => by
    induction ns with
    | nil => exact .nil
    | cons i r ih => exact .cons (.int i) ih
  have sp : spG c (callF fns k j) [.ref a] H (fun v _ => v = .bl true) fun _ _ _ => False := by
    obtain ⟨st', e⟩ := hlaw
    refine ⟨H, [], [], [.scr (ns.map D.int)], .cons (.scr (by rw [← T.eK]; exact t.sq) (fzL ns)) .nil, ⟨rfl, List.nodup_nil, fun _ h => (List.not_mem_nil h).elim, fun _ _ h => h, fun n a x h => by simp at h⟩, ?_⟩
    rw [e]
    intro v F' la' H' _ _ q
    cases q
    rfl
  refine codeAny_mono (G.run callerA [] s H ⟨[.ref a], []⟩ [.ref a] [.ref a] _ _ hr rfl e0 (W.bind s [.ref a] KX rfl) (.cons rfl .nil) sp) fun r s' h => ?_
  match r, h with
  | .error e, h =>
    obtain ⟨_, _, _, _, _, _, _, _, _, _, _, _, z⟩ := h
    exact z.elim
  | .ok .next, h => exact h.elim
  | .ok .brk, h => exact h.elim
  | .ok .cont, h => exact h.elim
  | .ok (.ret u), h =>
    obtain ⟨v, H', os, bare, un, ok', rv, q⟩ := h
    have q : v = .bl true := q
    subst q
    have rv : u = Value.bool true := rv
    subst rv
    refine ⟨rfl, OldK.of_keep fun b o e => ?_, os, bare⟩
    rcases t.only b with z | ⟨ob, xs, z⟩
    · exact un.keep b o e z (fun y => (List.not_mem_nil y).elim) (fun y => (List.not_mem_nil y).elim)
    · have z2 := un.frzs b ob _ z
      have e1 := (t.ok b _ z).1
      rw [e] at e1
      cases e1
      exact (ok' b _ z2).1
end
theorem look_all {β : Type} {P : Str → β → Prop} : ∀ {l : List (Str × β)}, (∀ p ∈ l, P p.1 p.2) → ∀ x j, l.lookup x = some j → P x j
  | [], _, _, _, e => by cases e
  | (y, b) :: l, h, x, j, e => by
    rw [List.lookup_cons] at e
    by_cases q : (x == y) = true
    · rw [q] at e
      cases e
      rw [eq_of_beq q]
      exact h (y, b) (List.mem_cons_self ..)
    · rw [Bool.eq_false_iff.mpr q] at e
      exact look_all (fun p hp => h p (List.mem_cons_of_mem _ hp)) x j e
theorem def_at {c : Cn} {K : PySem.W.Frag} {mg : Str → Option Value} {g : Gb} {fns : List Fn} {h : Heap} {x : Str} {j : Nat} {f : Addr} {st : Stmt} {N ps : List Str} {fn : Fn} {od an : Option Addr} {sl : Array (Option Value)} {oc kV dc pm cd ct : Value}
    (X : K.In h) (G : h.Ns mainGlobals mg) (a : PySem.W.nsIn K mainGlobals x = some (some (.ref f))) (l : K.lookup f = some ⟨oc, od, .func (PySem.W.fnOf x x (C8.fnArgs st) (C8.fnBody st) (C8.fnScope st) .none kV dc pm an cd ct), sl⟩)
    (cc : PySem.W.codeIn K cd x = true) (k : PySem.W.keepIn K (.ref f) = true) (S : C8.scC N ps (C8.fnScope st) = true) (hf : fns[j]? = some fn) (hN : N.length = fn.ns) (hp : ps.length = fn.np) (ck : chkB g N fn.body (C8.fnScope st) (C8.fnBody st) = true)
    (hb : ∀ (us : List Value), us.length = ps.length → bindArgs (PySem.W.fnOf x x (C8.fnArgs st) (C8.fnBody st) (C8.fnScope st) .none kV dc pm an cd ct) ⟨us, []⟩ = pure (ps.zip us))
    (hk : ∀ e ∈ g.kbs, e.1 = j → ∀ (us ws : List Value), us.length = e.2.1 → ws.length = e.2.2.1.length → bindArgs (PySem.W.fnOf x x (C8.fnArgs st) (C8.fnBody st) (C8.fnScope st) .none kV dc pm an cd ct) ⟨us, e.2.2.1.zip ws⟩ = pure (ps.zip (permU (us ++ ws) e.2.2.2))) :
    DefAt c K mg g fns x j f (PySem.W.fnOf x x (C8.fnArgs st) (C8.fnBody st) (C8.fnScope st) .none kV dc pm an cd ct) ps where
  ex := ⟨st, N, fn, ⟨⟨oc, od, .none, kV, dc, pm, an, cd, ct, sl, rfl, l, cc⟩, PySem.W.mg_of X G a, k⟩, C8.fnScope_by S, hf, hN, hp, ck⟩
  bind := fun s us _ h => .of_eq (hb us h)
  kbind := fun e he ej s us ws _ h1 h2 => .of_eq (hk e he ej us ws h1 h2)
theorem law_end {P : Program} {w : World} {K : PySem.W.Frag} {mg mb : Str → Option Value} {g : Gb} {fns : List Fn} {x x0 : Str} {k j : Nat} {fa a : Addr} {s : Shared} {vs : List Value} {ns : List Int} (TD : ∃ c : Cn, Table c K mg g fns ∧ ∃ f fd, DefAt c K mg g fns x j f fd [x0])
    (KX : K.In s.heap) (hm : mg x = some (.ref fa)) (hns : s.heap.Ns mainGlobals mg) (hb : s.heap.Ns builtinsNs mb) (hbb : ∀ x : Str, x ≠ "__name__" → mb x = bootBuiltins x) (hlim : s.heap.NoLimit) (hg : s.gens = #[])
    (ha : s.heap.get? a = some { cls := .type "list", data := .seq vs.toArray }) (hi : IntsAre vs ns) (hl : ns.length ≤ sizeLine) (hr : Room k callerA)
    (hlaw : ∃ st', callF fns k j [.scr (ns.map D.int)] [] = .ok (.bl true) st') :
    codeAny (model P w) callerA (.call (.ref fa) ⟨[.ref a], []⟩) (fun r s' => r = .ok (.ret (.bool true)) ∧ OldK s.heap s'.heap ∧ s'.os = s.os ∧ AllBare s'.gens) s := by
  obtain ⟨c, T, f, fd, Da⟩ := TD
  obtain ⟨st, N, fn, d, _⟩ := Da.ex
  have e := d.mgf.symm.trans hm
  cases e
  exact law_run T Da KX hns hb hbb hlim hg ha hi hl hr hlaw
end PD

/-! What each law's deck does. -/
namespace PD
open PySem PySem.Spec PyProof.Rows L2

/-! ### equality of flat lists -/
theorem pyL_ints (ns : List Int) : pyL (ns.map D.int) = some (ns.map PyData.int) := by
  induction ns with
  | nil => simp [pyL]
  | cons n ns ih => simp [pyL, D.py, ih]
theorem lay_ints (ns : List Int) : PyData.canLayAll0 (ns.map PyData.int) = true := by
  induction ns with
  | nil => simp [PyData.canLayAll0]
  | cons n ns ih => simp [PyData.canLayAll0, PyData.canLay0, ih]
theorem dep_ints (ns : List Int) : PyData.depthAll (ns.map PyData.int) = 0 := by
  induction ns with
  | nil => simp [PyData.depthAll]
  | cons n ns ih => simp [PyData.depthAll, PyData.depth, ih]
theorem shaped_ints (ns : List Int) : SeqAt.shaped (.list (ns.map PyData.int)) = true := by
  unfold SeqAt.shaped
  simp [PyData.canLay0, PyData.depth, lay_ints, dep_ints]
theorem eqvAll_nil (ns : List Int) : PyData.eqvAll (ns.map PyData.int) [] = ns.isEmpty := by
  cases ns <;> simp [PyData.eqvAll]
/-! ### the deck -/
def dk : List Key := [.inr (Str.ofString "cells"), .inr (Str.ofString "mixed"), .inr (Str.ofString "draws")]
def deckSt (cs : List Int) (m t : Int) (rest : Store) : Store := .lst (cs.map D.int) :: .dct dk [.loc 0, .int m, .int t] :: rest
def drawB (p q : Int) : S :=
 (S.seq (S.stk (E.var 0) (Str.ofString "draws") (E.bin .add (E.key (E.var 0) (Str.ofString "draws")) (E.cst (D.int 1))))
 (S.seq (S.unp [3, 2] (E.tup (E.cons (E.key (E.var 0) (Str.ofString "draws")) (E.cons (E.key (E.var 0) (Str.ofString "mixed")) E.nil))))
 (S.seq (S.ite (E.cmp .ne (E.key (E.var 0) (Str.ofString "cells")) (E.lst E.nil)) (S.seq (S.set 4 (E.mth .pop (E.key (E.var 0) (Str.ofString "cells")) E.nil))
  (S.seq (S.ite (E.cmp .ge (E.var 4) (E.bin .pow (E.cst (D.int 10)) (E.cst (D.int 18)))) (S.seq (S.exp (E.mth .append (E.key (E.var 0) (Str.ofString "cells")) (E.cons (E.bin .fdiv (E.var 4) (E.var 1)) E.nil)))
   (S.seq (S.ret (E.bin .mod (E.bi .int (E.cons (E.var 4) E.nil)) (E.var 1))) (S.skip))) (S.skip))
  (S.seq (S.set 2 (E.bin .add (E.var 2) (E.bi .int (E.cons (E.var 4) E.nil)))) (S.skip)))) (S.skip))
 (S.seq (S.set 2 (E.bin .mul (E.bi .int (E.cons (E.bin .add (E.bin .add (E.bin .mod (E.bi .int (E.cons (E.var 2) E.nil)) (E.cst (D.int 2147483587))) (E.bin .mul (E.bin .mul (E.cst (D.int p)) (E.var 3)) (E.var 3))) (E.cst (D.int q))) E.nil)) (E.cst (D.int 48271))))
 (S.seq (S.set 2 (E.bin .mod (E.bi .int (E.cons (E.var 2) E.nil)) (E.cst (D.int 2147483629))))
 (S.seq (S.set 2 (E.bin .mod (E.bi .int (E.cons (E.bin .add (E.bin .add (E.bin .mul (E.var 2) (E.var 2)) (E.bin .mul (E.cst (D.int 69621)) (E.var 3))) (E.cst (D.int 5))) E.nil)) (E.cst (D.int 2147483543))))
 (S.seq (S.ret (E.bin .mod (E.bin .fdiv (E.bin .mod (E.bi .int (E.cons (E.bin .mul (E.var 2) (E.cst (D.int 39373))) E.nil)) (E.cst (D.int 2147483563))) (E.cst (D.int 64))) (E.var 1))) (S.skip))))))))
/-- what is made of what is in the pot -/
def potOf (p q t pot b : Int) : Int :=
  let x := (((pot.fmod 2147483587 + p * t * t + q) * 48271).fmod 2147483629)
  let y := (x * x + 69621 * t + 5).fmod 2147483543
  (((y * 39373).fmod 2147483563).fdiv 64).fmod b
theorem bnd_rtn {α β : Type} (a : α) (f : α → M β) : bnd (rtn a) f = f a := rfl
theorem bnd_eq {α β : Type} {m : M α} {f : α → M β} {s s1 : Store} {a : α} (h : m s = .ok a s1) : bnd m f s = f a s1 := by
  unfold bnd
  rw [h]
theorem mulOk_l {i j : Int} (h1 : -(2 ^ 64) < i) (h2 : i < 2 ^ 64) : mulOk i j = true := by
  unfold mulOk
  rw [decide_eq_true h1, decide_eq_true h2]; rfl
theorem mulOk_r {i j : Int} (h1 : -(2 ^ 64) < j) (h2 : j < 2 ^ 64) : mulOk i j = true := by
  unfold mulOk
  rw [decide_eq_true h1, decide_eq_true h2, Bool.true_and, Bool.or_true]; rfl
/-- the rest of a draw, once the pot is known -/
def drawT (p q : Int) : S :=
 (S.seq (S.set 2 (E.bin .mul (E.bi .int (E.cons (E.bin .add (E.bin .add (E.bin .mod (E.bi .int (E.cons (E.var 2) E.nil)) (E.cst (D.int 2147483587))) (E.bin .mul (E.bin .mul (E.cst (D.int p)) (E.var 3)) (E.var 3))) (E.cst (D.int q))) E.nil)) (E.cst (D.int 48271))))
 (S.seq (S.set 2 (E.bin .mod (E.bi .int (E.cons (E.var 2) E.nil)) (E.cst (D.int 2147483629))))
 (S.seq (S.set 2 (E.bin .mod (E.bi .int (E.cons (E.bin .add (E.bin .add (E.bin .mul (E.var 2) (E.var 2)) (E.bin .mul (E.cst (D.int 69621)) (E.var 3))) (E.cst (D.int 5))) E.nil)) (E.cst (D.int 2147483543))))
 (S.seq (S.ret (E.bin .mod (E.bin .fdiv (E.bin .mod (E.bi .int (E.cons (E.bin .mul (E.var 2) (E.cst (D.int 39373))) E.nil)) (E.cst (D.int 2147483563))) (E.cst (D.int 64))) (E.var 1))) (S.skip)))))
theorem drawT_ok (C : Cfg) {p q t b pot : Int} {o : Option D} {d0 : Option D} {st : Store} (hp : -(2 ^ 64) < p ∧ p < 2 ^ 64) (ht : 0 ≤ t ∧ t < 2 ^ 60) (hb : 0 < b) :
    ex C (drawT p q) [d0, some (.int b), some (.int pot), some (.int t), o] st = .ok (.rt (.int (potOf p q t pot b))) st := by
  have m1 : mulOk p t = true := mulOk_l hp.1 hp.2
  have m2 : mulOk (p * t) t = true := mulOk_r (by omega) (by omega)
  have m3 : ∀ x, mulOk x 48271 = true := fun x => mulOk_r (by decide) (by decide)
  have m4 : ∀ x : Int, 0 ≤ x → x < 2147483629 → mulOk x x = true := fun x h1 h2 => mulOk_r (by omega) (by omega)
  have m5 : mulOk 69621 t = true := mulOk_l (by decide) (by decide)
  have m6 : ∀ x, mulOk x 39373 = true := fun x => mulOk_r (by decide) (by decide)
  have m7 := m4 (((pot.fmod 2147483587 + p * t * t + q) * 48271).fmod 2147483629) (Int.fmod_nonneg_of_pos _ (by decide)) (Int.fmod_lt_of_pos _ (by decide))
  have b0 : b ≠ 0 := by omega
  have d1 : divOk 64 = true := by decide
  simp [drawT, ex, ev, bnd, rtn, D.items, R.val, biM, binM, addM, mulM, potOf, m1, m2, m3, m5, m6, m7, b0, d1]
theorem potOf_mod {p q t pot b : Int} (hb : 0 < b) : 0 ≤ potOf p q t pot b ∧ potOf p q t pot b < b :=
  ⟨Int.fmod_nonneg_of_pos _ hb, Int.fmod_lt_of_pos _ hb⟩
/-- a deck: few cells, few draws -/
def Deck (n : Int) (st rest : Store) : Prop := ∃ cs m t, st = deckSt cs m t rest ∧ cs.length ≤ 63 ∧ 0 ≤ t ∧ t ≤ n
theorem Deck.mono {n n' : Int} {st rest : Store} (h : Deck n st rest) (hn : n ≤ n') : Deck n' st rest := by
  obtain ⟨cs, m, t, e, h1, h2, h3⟩ := h
  exact ⟨cs, m, t, e, h1, h2, Int.le_trans h3 hn⟩
def drawF (p q : Int) : Fn := { np := 2, ns := 5, body := drawB p q }
theorem seq_nx {C : Cfg} {a b : S} {en e : En} {st s : Store} (h : ex C a en st = .ok (.nx e) s) : ex C (.seq a b) en st = ex C b e s := by
  show bnd (ex C a en) _ st = _
  rw [bnd_eq h]
theorem seq_rt {C : Cfg} {a b : S} {en : En} {st s : Store} {d : D} (h : ex C a en st = .ok (.rt d) s) : ex C (.seq a b) en st = .ok (.rt d) s := by
  show bnd (ex C a en) _ st = _
  rw [bnd_eq h]; rfl
theorem ite_at {C : Cfg} {g : E} {a b : S} {en : En} {st s : Store} {k : Bool} (h : tev C g en st = .ok k s) : ex C (.ite g a b) en st = (if k = true then ex C a en else ex C b en) s := by
  show bnd (tev C g en) _ st = _
  rw [bnd_eq h]
theorem call_at {fns : List Fn} {f k : Nat} {fn : Fn} {ds : List D} {st : Store} (hf : fns[f]? = some fn) (hl : ds.length = fn.np) : callF fns (k + 1) f ds st = endFl fn.keep st (ex { call := callF fns k } fn.body (entry fn ds) st) := by
  show (match fns[f]? with
      | none => badM
      | some fn => fun st => if ds.length = fn.np then endFl fn.keep st (ex { call := callF fns k } fn.body (entry fn ds) st) else .bad) st = _
  rw [hf]
  show (if ds.length = fn.np then _ else _) = _
  rw [if_pos hl]
theorem kne1 : (Str.ofString "cells" = Str.ofString "draws") = False := eq_false (by decide +kernel)
theorem kne2 : (Str.ofString "mixed" = Str.ofString "draws") = False := eq_false (by decide +kernel)
theorem kne3 : (Str.ofString "cells" = Str.ofString "mixed") = False := eq_false (by decide +kernel)
theorem knd : ([.inr (Str.ofString "cells"), .inr (Str.ofString "mixed"), .inr (Str.ofString "draws")] : List Key).Nodup := by decide +kernel
def draw1 : S := S.stk (E.var 0) (Str.ofString "draws") (E.bin .add (E.key (E.var 0) (Str.ofString "draws")) (E.cst (D.int 1)))
def draw2 : S := S.unp [3, 2] (E.tup (E.cons (E.key (E.var 0) (Str.ofString "draws")) (E.cons (E.key (E.var 0) (Str.ofString "mixed")) E.nil)))
def draw3 : S := S.ite (E.cmp .ne (E.key (E.var 0) (Str.ofString "cells")) (E.lst E.nil)) (S.seq (S.set 4 (E.mth .pop (E.key (E.var 0) (Str.ofString "cells")) E.nil))
  (S.seq (S.ite (E.cmp .ge (E.var 4) (E.bin .pow (E.cst (D.int 10)) (E.cst (D.int 18)))) (S.seq (S.exp (E.mth .append (E.key (E.var 0) (Str.ofString "cells")) (E.cons (E.bin .fdiv (E.var 4) (E.var 1)) E.nil)))
   (S.seq (S.ret (E.bin .mod (E.bi .int (E.cons (E.var 4) E.nil)) (E.var 1))) (S.skip))) (S.skip))
  (S.seq (S.set 2 (E.bin .add (E.var 2) (E.bi .int (E.cons (E.var 4) E.nil)))) (S.skip)))) (S.skip)
theorem draw_ok {fns : List Fn} {f : Nat} {p q : Int} (hf : fns[f]? = some (drawF p q)) (hp : -(2 ^ 64) < p ∧ p < 2 ^ 64) (k : Nat) {n b : Int} {st rest : Store} (D0 : Deck n st rest) (hn : n < 2 ^ 59) (hb : 0 < b) (hb2 : b < 2 ^ 31) :
    ∃ j st', callF fns (k + 1) f [.loc 1, .int b] st = .ok (.int j) st' ∧ 0 ≤ j ∧ j < b ∧ Deck (n + 1) st' rest := by
  obtain ⟨cs, m, t, rfl, h1, h2, h3⟩ := D0
  have b0 : b ≠ 0 := by omega
  have dv : divOk b = true := by
    unfold divOk
    rw [decide_eq_true b0, decide_eq_true, Bool.and_true]
    have : b.natAbs < 2 ^ 31 := by omega
    have := (Nat.log2_lt (n := b.natAbs) (k := 31) (by omega)).mpr this
    omega
  cases e : cs.getLast? with
  | none =>
    have e0 : cs = [] := List.getLast?_eq_none_iff.mp e
    subst e0
    refine ⟨potOf p q (t + 1) m b, deckSt [] m (t + 1) rest, ?_, (potOf_mod hb).1, (potOf_mod hb).2, [], m, t + 1, rfl, by simp, by omega, by omega⟩
    have tail := drawT_ok { call := callF fns k } (q := q) (pot := m) (o := none) (d0 := some (.loc 1)) (st := deckSt [] m (t + 1) rest) hp (t := t + 1) ⟨by omega, by omega⟩ hb
    rw [call_at hf rfl]
    have s1 : ex { call := callF fns k } draw1 [some (.loc 1), some (.int b), none, none, none] (deckSt [] m t rest) = .ok (.nx [some (.loc 1), some (.int b), none, none, none]) (deckSt [] m (t + 1) rest) := by
      simp [draw1, ex, ev, deckSt, dk, bnd, rtn, keyM, klook, R.val, stkM, kputV, lim, binM, addM, kne1, kne2, kne3, knd]
    have s2 : ex { call := callF fns k } draw2 [some (.loc 1), some (.int b), none, none, none] (deckSt [] m (t + 1) rest) = .ok (.nx [some (.loc 1), some (.int b), some (.int m), some (.int (t + 1)), none]) (deckSt [] m (t + 1) rest) := by
      simp [draw2, ex, ev, deckSt, dk, bnd, rtn, keyM, klook, R.val, D.items, lim, bindT, setAll, kne1, kne2, kne3]
    have s3 : ex { call := callF fns k } draw3 [some (.loc 1), some (.int b), some (.int m), some (.int (t + 1)), none] (deckSt [] m (t + 1) rest) = .ok (.nx [some (.loc 1), some (.int b), some (.int m), some (.int (t + 1)), none]) (deckSt [] m (t + 1) rest) := by
      simp [draw3, ex, tev, ev, deckSt, dk, bnd, rtn, keyM, klook, R.val, D.items, lim, kne1, kne2, kne3, blM, cmpM, cmpS, eqS, pyS, pyL, D.py, truM, truS, PyData.eqv, PyData.eqvAll, SeqAt.shaped, PyData.canLay0, PyData.canLayAll0, PyData.depth, PyData.depthAll]
    have body : ex { call := callF fns k } (drawB p q) [some (.loc 1), some (.int b), none, none, none] (deckSt [] m t rest) = .ok (.rt (.int (potOf p q (t + 1) m b))) (deckSt [] m (t + 1) rest) :=
      (seq_nx s1).trans ((seq_nx s2).trans ((seq_nx s3).trans tail))
    show endFl false (deckSt [] m t rest) (ex { call := callF fns k } (drawB p q) [some (.loc 1), some (.int b), none, none, none] (deckSt [] m t rest)) = _
    rw [body]
    simp [endFl, endCall, deckSt]
  | some c =>
    obtain ⟨cs', rfl⟩ : ∃ cs', cs = cs' ++ [c] := ⟨cs.dropLast, by
      obtain ⟨ys, rfl⟩ := List.getLast?_eq_some_iff.mp e
      simp⟩
    rw [List.length_append, List.length_singleton] at h1
    have s1 : ex { call := callF fns k } draw1 [some (.loc 1), some (.int b), none, none, none] (deckSt (cs' ++ [c]) m t rest) = .ok (.nx [some (.loc 1), some (.int b), none, none, none]) (deckSt (cs' ++ [c]) m (t + 1) rest) := by
      simp [draw1, ex, ev, deckSt, dk, bnd, rtn, keyM, klook, R.val, stkM, kputV, lim, binM, addM, kne1, kne2, kne3, knd]
    have s2 : ex { call := callF fns k } draw2 [some (.loc 1), some (.int b), none, none, none] (deckSt (cs' ++ [c]) m (t + 1) rest) = .ok (.nx [some (.loc 1), some (.int b), some (.int m), some (.int (t + 1)), none]) (deckSt (cs' ++ [c]) m (t + 1) rest) := by
      simp [draw2, ex, ev, deckSt, dk, bnd, rtn, keyM, klook, R.val, D.items, lim, bindT, setAll, kne1, kne2, kne3]
    let C : Cfg := { call := callF fns k }
    have s3 : ex C (S.set 4 (E.mth .pop (E.key (E.var 0) (Str.ofString "cells")) E.nil)) [some (.loc 1), some (.int b), some (.int m), some (.int (t + 1)), none] (deckSt (cs' ++ [c]) m (t + 1) rest) = .ok (.nx [some (.loc 1), some (.int b), some (.int m), some (.int (t + 1)), some (.int c)]) (deckSt cs' m (t + 1) rest) := by
      simp [ex, ev, deckSt, dk, bnd, rtn, keyM, klook, R.val, D.items, lstOf, mthM]
    have g1 : tev C (E.cmp .ne (E.key (E.var 0) (Str.ofString "cells")) (E.lst E.nil)) [some (.loc 1), some (.int b), some (.int m), some (.int (t + 1)), none] (deckSt (cs' ++ [c]) m (t + 1) rest) = .ok true (deckSt (cs' ++ [c]) m (t + 1) rest) := by
      have e1 := pyL_ints (cs' ++ [c])
      have e2 := shaped_ints (cs' ++ [c])
      have e3 := eqvAll_nil (cs' ++ [c])
      have e4 : SeqAt.shaped (.list []) = true := shaped_ints []
      simp only [List.map_append, List.map_cons, List.map_nil] at e1 e2 e3
      simp [tev, ev, deckSt, dk, bnd, rtn, keyM, klook, R.val, D.items, lim, blM, cmpM, cmpS, eqS, pyS, D.py, truM, truS, PyData.eqv, e1, e2, e3, e4, pyL]
    have g2 : tev C (E.cmp .ge (E.var 4) (E.bin .pow (E.cst (D.int 10)) (E.cst (D.int 18)))) [some (.loc 1), some (.int b), some (.int m), some (.int (t + 1)), some (.int c)] (deckSt cs' m (t + 1) rest) = .ok (decide ((10 : Int) ^ 18 ≤ c)) (deckSt cs' m (t + 1) rest) := by
      have e1 : (decide ((0 : Int) ≤ 18) && decide ((Builtin.Int.intBits 10 : Int) * 18 ≤ 2 ^ 27)) = true := by decide +kernel
      simp only [tev, ev, binM, bnd, rtn, R.val, List.getElem?_cons_succ, List.getElem?_cons_zero, e1, if_true, blM, cmpM, cmpS, truM, truS]
      rfl
    by_cases hc : (10 : Int) ^ 18 ≤ c
    · refine ⟨c.fmod b, deckSt (cs' ++ [c.fdiv b]) m (t + 1) rest, ?_, Int.fmod_nonneg_of_pos _ hb, Int.fmod_lt_of_pos _ hb, cs' ++ [c.fdiv b], m, t + 1, rfl, by rw [List.length_append]; exact h1, by omega, by omega⟩
      rw [call_at hf rfl]
      have t1 : ex C (S.exp (E.mth .append (E.key (E.var 0) (Str.ofString "cells")) (E.cons (E.bin .fdiv (E.var 4) (E.var 1)) E.nil))) [some (.loc 1), some (.int b), some (.int m), some (.int (t + 1)), some (.int c)] (deckSt cs' m (t + 1) rest) = .ok (.nx [some (.loc 1), some (.int b), some (.int m), some (.int (t + 1)), some (.int c)]) (deckSt (cs' ++ [c.fdiv b]) m (t + 1) rest) := by
        have hl : cs'.length ≤ 1000000 := by omega
        simp [ex, ev, deckSt, dk, bnd, rtn, keyM, klook, R.val, D.items, lstOf, mthM, binM, dv, lim, hl]
      have t2 : ex C (S.ret (E.bin .mod (E.bi .int (E.cons (E.var 4) E.nil)) (E.var 1))) [some (.loc 1), some (.int b), some (.int m), some (.int (t + 1)), some (.int c)] (deckSt (cs' ++ [c.fdiv b]) m (t + 1) rest) = .ok (.rt (.int (c.fmod b))) (deckSt (cs' ++ [c.fdiv b]) m (t + 1) rest) := by
        simp [ex, ev, bnd, rtn, R.val, D.items, binM, biM, b0]
      have t3 : ex C draw3 [some (.loc 1), some (.int b), some (.int m), some (.int (t + 1)), none] (deckSt (cs' ++ [c]) m (t + 1) rest) = .ok (.rt (.int (c.fmod b))) (deckSt (cs' ++ [c.fdiv b]) m (t + 1) rest) := by
        unfold draw3
        refine (ite_at g1).trans ((seq_nx s3).trans (seq_rt ((ite_at g2).trans ?_)))
        rw [decide_eq_true hc]
        exact (seq_nx t1).trans (seq_rt t2)
      have body : ex C (drawB p q) [some (.loc 1), some (.int b), none, none, none] (deckSt (cs' ++ [c]) m t rest) = .ok (.rt (.int (c.fmod b))) (deckSt (cs' ++ [c.fdiv b]) m (t + 1) rest) :=
        (seq_nx s1).trans ((seq_nx s2).trans (seq_rt t3))
      show endFl false (deckSt (cs' ++ [c]) m t rest) (ex C (drawB p q) [some (.loc 1), some (.int b), none, none, none] (deckSt (cs' ++ [c]) m t rest)) = _
      rw [body]
      simp [endFl, endCall, deckSt]
    · refine ⟨potOf p q (t + 1) (m + c) b, deckSt cs' m (t + 1) rest, ?_, (potOf_mod hb).1, (potOf_mod hb).2, cs', m, t + 1, rfl, by omega, by omega, by omega⟩
      rw [call_at hf rfl]
      have tail := drawT_ok C (q := q) (pot := m + c) (o := some (.int c)) (d0 := some (.loc 1)) (st := deckSt cs' m (t + 1) rest) hp (t := t + 1) ⟨by omega, by omega⟩ hb
      have t1 : ex C (S.seq (S.set 2 (E.bin .add (E.var 2) (E.bi .int (E.cons (E.var 4) E.nil)))) S.skip) [some (.loc 1), some (.int b), some (.int m), some (.int (t + 1)), some (.int c)] (deckSt cs' m (t + 1) rest) = .ok (.nx [some (.loc 1), some (.int b), some (.int (m + c)), some (.int (t + 1)), some (.int c)]) (deckSt cs' m (t + 1) rest) := by
        simp [ex, ev, bnd, rtn, R.val, D.items, binM, biM, addM]
      have t3 : ex C draw3 [some (.loc 1), some (.int b), some (.int m), some (.int (t + 1)), none] (deckSt (cs' ++ [c]) m (t + 1) rest) = .ok (.nx [some (.loc 1), some (.int b), some (.int (m + c)), some (.int (t + 1)), some (.int c)]) (deckSt cs' m (t + 1) rest) := by
        unfold draw3
        refine (ite_at g1).trans ((seq_nx s3).trans ((seq_nx ((ite_at g2).trans ?_)).trans t1))
        rw [decide_eq_false hc]
        rfl
      have body : ex C (drawB p q) [some (.loc 1), some (.int b), none, none, none] (deckSt (cs' ++ [c]) m t rest) = .ok (.rt (.int (potOf p q (t + 1) (m + c) b))) (deckSt cs' m (t + 1) rest) :=
        (seq_nx s1).trans ((seq_nx s2).trans ((seq_nx t3).trans tail))
      show endFl false (deckSt (cs' ++ [c]) m t rest) (ex C (drawB p q) [some (.loc 1), some (.int b), none, none, none] (deckSt (cs' ++ [c]) m t rest)) = _
      rw [body]
      simp [endFl, endCall, deckSt]
end PD

/-! Loops, comprehensions, the deck, a pick. -/
namespace PD
open PySem PySem.Spec PyProof.Rows L2
theorem for_inv {tg : Tg} {f : En → M Fl} {w : List Nat} {st0 : Store} (I : List D → En → Store → Prop)
    (step : ∀ x xs en st, I (x :: xs) en st → ∃ en1 en' st', bindT tg x en = some en1 ∧ f en1 st = .ok (.nx en') st' ∧ watchOk w st0 st' = true ∧ I xs en' st') :
    ∀ xs en st, I xs en st → ∃ en' st', forGo tg f w st0 xs en st = .ok (.nx en') st' ∧ I [] en' st'
  | [], en, st, h => ⟨en, st, rfl, h⟩
  | x :: xs, en, st, h => by
    obtain ⟨en1, en2, st2, h1, h2, h3, h4⟩ := step x xs en st h
    obtain ⟨en3, st3, h5, h6⟩ := for_inv I step xs en2 st2 h4
    refine ⟨en3, st3, ?_, h6⟩
    show (match bindT tg x en with
      | none => badM
      | some en1 => bnd (f en1) fun fl => match fl with
        | .nx e | .ct e => fun st => if watchOk w st0 st then forGo tg f w st0 xs e st else .bad
        | .bk e => rtn (.nx e)
        | .rt d => rtn (.rt d)) st = _
    rw [h1]
    show bnd (f en1) _ st = _
    rw [bnd_eq h2]
    show (if watchOk w st0 st2 = true then _ else _) = _
    rw [if_pos h3]
    exact h5
theorem loop_at {C : Cfg} {T : Tg} {G : E} {B : S} {en : En} {st s : Store} {xs : List D} {w : List Nat} (h : ev C G en st = .ok (.it xs w) s) : ex C (.loop T G B) en st = forGo T (ex C B) w s xs en s := by
  show bnd (ev C G en) _ st = _
  rw [bnd_eq h]
/-- a comprehension that changes nothing -/
theorem comp_go {tg : Tg} {f : En → M (Option D)} {w : List Nat} {st0 : Store} {en : En} (g : D → Option D) (hw : watchOk w st0 st0 = true) :
    ∀ xs, (∀ x ∈ xs, ∃ en1, bindT tg x en = some en1 ∧ f en1 st0 = .ok (g x) st0) → compGo tg f w st0 en xs st0 = .ok (xs.filterMap g) st0
  | [], _ => rfl
  | x :: xs, h => by
    obtain ⟨en1, h1, h2⟩ := h x (List.mem_cons_self ..)
    have ih := comp_go g hw xs fun y hy => h y (List.mem_cons_of_mem _ hy)
    show (match bindT tg x en with
      | none => badM
      | some en1 => bnd (f en1) fun o => fun st => if watchOk w st0 st then
        bnd (compGo tg f w st0 en xs) (fun ys => rtn (consO o ys)) st else .bad) st0 = _
    rw [h1]
    show bnd (f en1) _ st0 = _
    rw [bnd_eq h2]
    show (if watchOk w st0 st0 = true then _ else _) = _
    rw [if_pos hw, bnd_eq ih]
    cases e : g x with
    | none => rw [List.filterMap_cons_none e]; rfl
    | some y => rw [List.filterMap_cons_some e]; rfl
def deckL (c2 : Int) : S := (S.seq (S.set 3 (E.bin .mod (E.bi .int (E.cons (E.bin .add (E.bin .add (E.bin .mul (E.var 3) (E.cst (D.int 40014))) (E.bin .mod (E.bi .int (E.cons (E.var 1) E.nil)) (E.cst (D.int 2147483563)))) (E.cst (D.int c2))) E.nil)) (E.cst (D.int 2147483647)))) (S.skip))
def deckF (c1 c2 : Int) : Fn := { np := 1, ns := 4, keep := true, body :=
 (S.seq (S.unp [2, 3] (E.tup (E.cons (E.bi .list (E.cons (E.slc (E.var 0) false E.nil true (E.cst (D.int 63))) E.nil)) (E.cons (E.cst (D.int c1)) E.nil))))
 (S.seq (S.loop (.nm 1) (E.itv (E.var 2)) (deckL c2))
 (S.seq (S.ret (E.newd [.inr (Str.ofString "cells"), .inr (Str.ofString "mixed"), .inr (Str.ofString "draws")] (E.cons (E.newl (E.rev (E.var 2))) (E.cons (E.var 3) (E.cons (E.cst (D.int 0)) E.nil))))) (S.skip)))) }
theorem cut63 (ns : List Int) (h : ns.length ≤ 63) : cutL (ns.map D.int) none (some 63) = ns.map D.int := by
  unfold cutL
  have e1 : HT.sIx (ns.map D.int).length 0 none = 0 := rfl
  have e2 : HT.sIx (ns.map D.int).length (ns.map D.int).length (some 63) = ns.length := by
    rw [List.length_map]
    simp only [HT.sIx]
    rw [if_neg (by decide)]
    show min 63 ns.length = ns.length
    omega
  rw [e1, e2]
  show List.take (ns.length - 0) (List.drop 0 (ns.map D.int)) = _
  rw [List.drop_zero, List.take_of_length_le (by rw [List.length_map]; omega)]
theorem deck_ok {fns : List Fn} {f : Nat} {c1 c2 : Int} (hf : fns[f]? = some (deckF c1 c2)) (k : Nat) (ns : List Int) (h : ns.length ≤ 63) :
    ∃ st', callF fns (k + 1) f [.scr (ns.map D.int)] [] = .ok (.loc 1) st' ∧ Deck 0 st' [] := by
  let C : Cfg := { call := callF fns k }
  have hl : ns.length ≤ 1000000 := by omega
  have s1 : ex C (S.unp [2, 3] (E.tup (E.cons (E.bi .list (E.cons (E.slc (E.var 0) false E.nil true (E.cst (D.int 63))) E.nil)) (E.cons (E.cst (D.int c1)) E.nil)))) [some (.scr (ns.map D.int)), none, none, none] [] = .ok (.nx [some (.scr (ns.map D.int)), none, some (.lst (ns.map D.int)), some (.int c1)]) [] := by
    have e := cut63 ns h
    simp [ex, ev, bnd, rtn, R.val, D.items, bndM, slcM, biM, seqOf, lim, bindT, setAll, e, hl]
  have s2 : ∃ x m, ex C (S.loop (.nm 1) (E.itv (E.var 2)) (deckL c2))
      [some (.scr (ns.map D.int)), none, some (.lst (ns.map D.int)), some (.int c1)] [] = .ok (.nx [some (.scr (ns.map D.int)), x, some (.lst (ns.map D.int)), some (.int m)]) [] := by
    rw [loop_at (s := []) (xs := ns.map D.int) (w := []) (by simp [ev, bnd, rtn, R.val, itvM, seqOf, lim, hl, locsOf])]
    obtain ⟨en', st', h1, ⟨h2, h3, x, m, h4⟩⟩ := for_inv (tg := .nm 1) (f := ex C (deckL c2)) (w := []) (st0 := []) (fun xs en st => st = [] ∧ (∃ ms : List Int, xs = ms.map D.int) ∧ ∃ x m, en = [some (.scr (ns.map D.int)), x, some (.lst (ns.map D.int)), some (.int m)])
      (fun x xs en st hI => by
        obtain ⟨rfl, ⟨ms, hms⟩, y, m, rfl⟩ := hI
        cases ms with
        | nil => cases hms
        | cons i ms =>
          cases hms
          have mo : mulOk m 40014 = true := mulOk_r (by decide) (by decide)
          refine ⟨_, [some (.scr (ns.map D.int)), some (.int i), some (.lst (ns.map D.int)), some (.int ((m * 40014 + i.fmod 2147483563 + c2).fmod 2147483647))], [], rfl, ?_, rfl, rfl, ⟨ms, rfl⟩, _, _, rfl⟩
          simp [deckL, ex, ev, bnd, rtn, R.val, D.items, binM, addM, mulM, biM, mo]) (ns.map D.int) [some (.scr (ns.map D.int)), none, some (.lst (ns.map D.int)), some (.int c1)] [] ⟨rfl, ⟨ns, rfl⟩, none, c1, rfl⟩
    subst h2; subst h4
    exact ⟨x, m, h1⟩
  obtain ⟨x, m, s2⟩ := s2
  have s3 : ex C (S.ret (E.newd [.inr (Str.ofString "cells"), .inr (Str.ofString "mixed"), .inr (Str.ofString "draws")] (E.cons (E.newl (E.rev (E.var 2))) (E.cons (E.var 3) (E.cons (E.cst (D.int 0)) E.nil))))) [some (.scr (ns.map D.int)), x, some (.lst (ns.map D.int)), some (.int m)] [] = .ok (.rt (.loc 1)) (deckSt ns.reverse m 0 []) := by
    simp [ex, ev, bnd, rtn, R.val, D.items, revM, lstOf, deckSt, dk]
  refine ⟨deckSt ns.reverse m 0 [], ?_, ns.reverse, m, 0, rfl, by rw [List.length_reverse]; exact h, by omega, by omega⟩
  rw [call_at hf rfl]
  have body : ex C (deckF c1 c2).body [some (.scr (ns.map D.int)), none, none, none] [] = .ok (.rt (.loc 1)) (deckSt ns.reverse m 0 []) :=
    (seq_nx s1).trans ((seq_nx s2).trans (seq_rt s3))
  show endFl true [] (ex C (deckF c1 c2).body [some (.scr (ns.map D.int)), none, none, none] []) = _
  rw [body]
  rfl
def pickF (fd : Nat) : Fn := { np := 2, ns := 2, body := (S.seq (S.ret (E.idx (E.var 1) (E.call fd (E.cons (E.var 0) (E.cons (E.bi .len (E.cons (E.var 1) E.nil)) E.nil))))) (S.skip)) }
theorem pick_ok {fns : List Fn} {f fd : Nat} {p q : Int} (hf : fns[f]? = some (pickF fd)) (hd : fns[fd]? = some (drawF p q)) (hp : -(2 ^ 64) < p ∧ p < 2 ^ 64) (k : Nat) {n : Int} {st rest : Store} (D0 : Deck n st rest) (hn : n < 2 ^ 59) {v : D} {xs : List D}
    (hv : v = .lst xs ∨ v = .tup xs) (h0 : 0 < xs.length) (h1 : xs.length ≤ 1000000) :
    ∃ d st', d ∈ xs ∧ callF fns (k + 2) f [.loc 1, v] st = .ok d st' ∧ Deck (n + 1) st' rest := by
  obtain ⟨j, st', e, j0, jl, D1⟩ := draw_ok hd hp k (b := (xs.length : Int)) D0 hn (by omega) (by omega)
  have hx : ixN xs.length j = some j.toNat := by
    show L2.ixN xs.length j = some j.toNat
    unfold L2.ixN
    rw [if_pos j0, if_pos (by omega)]
  have hj : j.toNat < xs.length := by omega
  refine ⟨xs[j.toNat], st', List.getElem_mem hj, ?_, D1⟩
  rw [call_at hf rfl]
  have hsq : seqOf st v = some xs := by rcases hv with rfl | rfl <;> rfl
  have hix : idxM v (.int j) st' = .ok (.d xs[j.toNat]) st' := by
    rcases hv with rfl | rfl <;> simp [idxM, hx, List.getElem?_eq_getElem hj]
  have s1 : ex { call := callF fns (k + 1) } (S.ret (E.idx (E.var 1) (E.call fd (E.cons (E.var 0) (E.cons (E.bi .len (E.cons (E.var 1) E.nil)) E.nil))))) [some (.loc 1), some v] st = .ok (.rt xs[j.toNat]) st' := by
    simp [ex, ev, bnd, rtn, R.val, D.items, biM, hsq, e, hix]
  have hle : st'.length = st.length := by
    obtain ⟨a, b, c, rfl, _⟩ := D0
    obtain ⟨a', b', c', rfl, _⟩ := D1
    rfl
  show endFl false st (ex { call := callF fns (k + 1) } (pickF fd).body [some (.loc 1), some v] st) = _
  rw [show ex { call := callF fns (k + 1) } (pickF fd).body [some (.loc 1), some v] st = .ok (.rt xs[j.toNat]) st' from seq_rt s1]
  simp [endFl, endCall, hle]
end PD

/-! Walking a text: what is wanted behind it, one step a construct. -/
namespace PD
open PySem PySem.Spec PyProof.Rows L2
/-- a mark that keeps what it bears from being looked into -/
inductive Mk {β : Type} (x : β) : Type where
  | mk
/-- the outcome is a value, and Q is so of it -/
def Wp {α : Type} (o : Out α) (Q : α → Store → Prop) (_m : Mk Q := .mk) : Prop := match o with
  | .ok a s => Q a s
  | .exc _ _ _ => False
  | .bad => False
/-- one of two, by a test -/
def selM {α : Type} (k : Bool) (a b : M α) (_m : Mk a := .mk) (_n : Mk b := .mk) : M α := fun st => if k = true then a st else b st
/-- one behind the other -/
def bndT {α β : Type} (m : M α) (f : α → M β) (_m : Mk f := .mk) : M β := bnd m f
theorem bndT_rtn {α β : Type} (a : α) (f : α → M β) : bndT (rtn a) f = f a := rfl
section
variable {α β : Type} {st s : Store} {C : Cfg} {en : En}
theorem wp_ok {a : α} {Q : α → Store → Prop} : Wp (.ok a s) Q = Q a s := rfl
theorem wp_rtn {a : α} {Q : α → Store → Prop} : Wp (rtn a st) Q = Q a st := rfl
theorem wp_bnd {m : M α} {f : α → M β} {Q : β → Store → Prop} : Wp ((bndT m f) st) Q = Wp (m st) (fun a s => Wp (f a s) Q) := by
  show (match (match m st with
    | .ok a s => f a s
    | .exc c x s => .exc c x s
    | .bad => .bad) with
  | .ok a s => Q a s
  | .exc _ _ _ => False
  | .bad => False) = _
  unfold Wp
  cases m st <;> rfl
theorem wp_bnd0 {m : M α} {f : α → M β} {Q : β → Store → Prop} : Wp (bnd m f st) Q = Wp (m st) (fun a s => Wp (f a s) Q) := wp_bnd
theorem wp_sel {k : Bool} {a b : M α} {Q : α → Store → Prop} (h1 : k = true → Wp (a st) Q) (h2 : k = false → Wp (b st) Q) : Wp ((selM k a b) st) Q := by
  unfold selM
  cases k with
  | true => exact h1 rfl
  | false => exact h2 rfl
theorem wp_must {k : Bool} {a b : M α} {Q : α → Store → Prop} (h1 : k = true) (h2 : Wp (a st) Q) : Wp ((selM k a b) st) Q := by
  subst h1; exact h2
theorem wp_mustnt {k : Bool} {a b : M α} {Q : α → Store → Prop} (h1 : k = false) (h2 : Wp (b st) Q) : Wp ((selM k a b) st) Q := by
  subst h1; exact h2
theorem wp_mono {o : Out α} {Q Q' : α → Store → Prop} (h : Wp o Q) (hq : ∀ a s, Q a s → Q' a s) : Wp o Q' := by
  cases o with
  | ok a s => exact hq a s h
  | exc _ _ _ => exact h
  | bad => exact h
theorem wp_of {o : Out α} {a : α} {Q : α → Store → Prop} (h : o = .ok a s) (hq : Q a s) : Wp o Q := by rw [h]; exact hq
theorem of_wp {o : Out α} {a : α} (h : Wp o fun b s' => b = a ∧ s' = s) : o = .ok a s := by
  cases o with
  | ok b s' => obtain ⟨rfl, rfl⟩ := h; rfl
  | exc _ _ _ => exact h.elim
  | bad => exact h.elim
theorem wp_get {o : Out α} {Q : α → Store → Prop} (h : Wp o Q) : ∃ a s, o = .ok a s ∧ Q a s := by
  cases o with
  | ok b s' => exact ⟨b, s', rfl, h⟩
  | exc _ _ _ => exact h.elim
  | bad => exact h.elim
theorem wp_nox {m : M α} {Q : α → Store → Prop} : Wp (nox m st) Q = Wp (m st) Q := by
  unfold nox Wp
  cases m st <;> rfl
theorem sel_t {a b : M α} : selM true a b = a := rfl
theorem sel_f {a b : M α} : selM false a b = b := rfl
theorem sel_is {k : Bool} {a b : M α} : (if k = true then a else b) = selM k a b := by
  funext st
  unfold selM
  cases k <;> rfl
theorem seln_is {k : Bool} {a b : M α} : (fun st => if k = true then a st else b st) = selM k a b := rfl

/-! ### expressions -/
def getM (o : Option (Option D)) : M R := match o with
  | some (some d) => rtn (.d d)
  | _ => badM
theorem getM_s {d : D} : getM (some (some d)) = rtn (.d d) := rfl
def optM {α : Type} (o : Option α) : M α := match o with
  | some d => rtn d
  | _ => badM
theorem optM_s {d : α} : optM (some d) = rtn d := rfl
theorem ev_var {i : Nat} : ev C (.var i) en = getM en[i]? := by
  show (match en[i]? with
    | some (some d) => rtn (R.d d)
    | _ => badM) = _
  unfold getM
  cases en[i]? with
  | none => rfl
  | some o => cases o <;> rfl
theorem ev_cst {d : D} : ev C (.cst d) en = rtn (.d d) := rfl
theorem ev_glo {x : Str} {d : D} : ev C (.glo x d) en = rtn (.d d) := rfl
theorem ev_nil : ev C .nil en = rtn (.d (.tup [])) := rfl
theorem ev_cons {a b : E} : ev C (.cons a b) en = bndT (ev C a en) fun x => bndT (ev C b en) fun y => rtn (.d (.tup (x.val :: y.val.items))) := rfl
/-- a sequence that lies in a cell, or stands -/
def seqM {α : Type} (x : D) (m : List D → M α) (_m : Mk m := .mk) : M α := fun st => match seqOf st x with
  | some xs => m xs st
  | none => .bad
theorem ev_star {a b : E} : ev C (.star a b) en = bndT (ev C a en) fun x => seqM x.val fun xs => bndT (ev C b en) fun y => selM (lim (xs.length + y.val.items.length)) (rtn (.d (.tup (xs ++ y.val.items)))) badM := by
  show (bnd (ev C a en) fun x => fun st => match seqOf st x.val with
    | some xs => bnd (ev C b en) (fun y => if lim (xs.length + y.val.items.length) = true then rtn (R.d (.tup (xs ++ y.val.items))) else badM) st
    | none => .bad) = _
  unfold bndT
  congr 1; funext x
  show (_ : M R) = fun st => match seqOf st x.val with
    | some xs => bnd (ev C b en) (fun y => selM (lim (xs.length + y.val.items.length)) (rtn (R.d (.tup (xs ++ y.val.items)))) badM) st
    | none => .bad
  funext st
  cases seqOf st x.val with
  | none => rfl
  | some xs =>
    show bnd (ev C b en) _ st = bnd (ev C b en) _ st
    congr 1; funext y; exact sel_is
theorem seqM_tup {xs : List D} {m : List D → M α} : seqM (.tup xs) m = m xs := rfl
theorem seqM_lst {xs : List D} {m : List D → M α} : seqM (.lst xs) m = m xs := rfl
theorem ev_tup {a : E} : ev C (.tup a) en = bndT (ev C a en) fun x => selM (lim x.val.items.length) (rtn (.d (.tup x.val.items))) badM := by
  show (bndT (ev C a en) fun x => if lim x.val.items.length = true then rtn (R.d (.tup x.val.items)) else badM) = _
  unfold bndT
  congr 1; funext x; exact sel_is
theorem ev_lst {a : E} : ev C (.lst a) en = bndT (ev C a en) fun x => selM (lim x.val.items.length) (rtn (.fr x.val.items)) badM := by
  show (bndT (ev C a en) fun x => if lim x.val.items.length = true then rtn (R.fr x.val.items) else badM) = _
  unfold bndT
  congr 1; funext x; exact sel_is
theorem ev_bin {op : BOp} {a b : E} : ev C (.bin op a b) en = bndT (ev C a en) fun x => bndT (ev C b en) fun y => binM op x.val y.val := rfl
theorem ev_neg {a : E} : ev C (.neg a) en = bndT (ev C a en) fun x => optM (match x.val with
    | .int i => some (R.d (.int (-i)))
    | _ => none) := by
  show (bndT (ev C a en) fun x => match x.val with
    | .int i => rtn (R.d (.int (-i)))
    | _ => badM) = _
  unfold bndT
  congr 1; funext x
  cases x.val <;> rfl
theorem ev_cmp {op : COp} {a b : E} : ev C (.cmp op a b) en = bndT (ev C a en) fun x => bndT (ev C b en) fun y => bndT (cmpM op x.val y.val) fun b => rtn (.d (.bl b)) := rfl
theorem ev_chn {o p : COp} {a b c : E} : ev C (.chn o p a b c) en = bndT (ev C a en) fun x => bndT (ev C b en) fun y => bndT (cmpM o x.val y.val) fun k =>
    selM k (bndT (ev C c en) fun z => bndT (cmpM p y.val z.val) fun b => rtn (.d (.bl b))) (rtn (.d (.bl false))) := by
  show (bndT (ev C a en) fun x => bndT (ev C b en) fun y => bndT (cmpM o x.val y.val) fun k =>
    if k = true then bndT (ev C c en) fun z => blM (cmpM p y.val z.val) else rtn (R.d (.bl false))) = _
  unfold bndT
  congr 1; funext x; congr 1; funext y; congr 1; funext k; exact sel_is
theorem ev_and {a b : E} : ev C (.and a b) en = bndT (ev C a en) fun x => bndT (truM x.val) fun k => selM k (ev C b en) (rtn (.d x.val)) := by
  show (bndT (ev C a en) fun x => bndT (truM x.val) fun k => if k = true then ev C b en else rtn (.d x.val)) = _
  unfold bndT
  congr 1; funext x; congr 1; funext k; exact sel_is
theorem ev_or {a b : E} : ev C (.or a b) en = bndT (ev C a en) fun x => bndT (truM x.val) fun k => selM k (rtn (.d x.val)) (ev C b en) := by
  show (bndT (ev C a en) fun x => bndT (truM x.val) fun k => if k = true then rtn (.d x.val) else ev C b en) = _
  unfold bndT
  congr 1; funext x; congr 1; funext k; exact sel_is
theorem ev_one {a : E} : ev C (.one a) en = ev C a en := rfl
theorem ev_not {a : E} : ev C (.not a) en = bndT (ev C a en) fun x => bndT (truM x.val) fun k => rtn (.d (.bl (!k))) := rfl
theorem ev_ite {c a b : E} : ev C (.ite c a b) en = bndT (ev C c en) fun x => bndT (truM x.val) fun k => selM k (ev C a en) (ev C b en) := by
  show (bndT (ev C c en) fun x => bndT (truM x.val) fun k => if k = true then ev C a en else ev C b en) = _
  unfold bndT
  congr 1; funext x; congr 1; funext k; exact sel_is
theorem ev_idx {a i : E} : ev C (.idx a i) en = bndT (ev C a en) fun x => bndT (ev C i en) fun y => idxM x.val y.val := rfl
theorem ev_slc {a lo hi : E} {l h : Bool} : ev C (.slc a l lo h hi) en = bndT (ev C a en) fun x => bndT (ev C lo en) fun y => bndT (bndM l y.val) fun p => bndT (ev C hi en) fun z => bndT (bndM h z.val) fun q => slcM x.val p q := rfl
theorem ev_rev {a : E} : ev C (.rev a) en = bndT (ev C a en) fun x => revM x.val := rfl
theorem ev_call {f : Nat} {es : E} : ev C (.call f es) en = bndT (ev C es en) fun x => bndT (C.call f x.val.items) fun d => rtn (.d d) := rfl
theorem ev_callk {f : Nat} {es : E} {ks : List Str} {perm : List Nat} : ev C (.callk f es ks perm) en = bndT (ev C es en) fun x => bndT (C.call f (permuted x.val.items perm)) fun d => rtn (.d d) := rfl
theorem ev_bi {b : Bi} {es : E} : ev C (.bi b es) en = bndT (ev C es en) fun x => biM b x.val.items := rfl
/-- a list that lies in a cell, or stands -/
def lstM {α : Type} (x : D) (m : List D → M α) (_m : Mk m := .mk) : M α := fun st => match lstOf st x with
  | some xs => m xs st
  | none => .bad
theorem ev_mth {m : Mt} {o es : E} : ev C (.mth m o es) en = bndT (ev C o en) fun x => lstM x.val fun _ => bndT (ev C es en) fun y => mthM m x.val y.val.items := by
  show (bndT (ev C o en) fun x => fun st => match lstOf st x.val with
    | some _ => bnd (ev C es en) (fun y => mthM m x.val y.val.items) st
    | none => .bad) = _
  unfold bndT
  congr 1
def compM (tg : Tg) (f : En → M (Option D)) (en : En) (r : R) : M R := match r with
  | .it xs w => fun st => bnd (compGo tg f w st en xs) (fun ys => rtn (.fr ys)) st
  | _ => badM
theorem ev_comp {elt it cond : E} {tg : Tg} {own : List Nat} : ev C (.comp elt tg it cond own) en = bndT (ev C it en) fun r => compM tg (turnM C cond elt) (PD.wipe en own) r := by
  show (bndT (ev C it en) fun r => match r with
    | .it xs w => fun st => bnd (compGo tg (turnM C cond elt) w st (PD.wipe en own) xs) (fun ys => rtn (R.fr ys)) st
    | _ => badM) = _
  rfl
theorem compM_it {tg : Tg} {f : En → M (Option D)} {xs : List D} {w : List Nat} : compM tg f en (.it xs w) st = (bndT (compGo tg f w st en xs) (fun ys => rtn (.fr ys))) st := rfl
def newlM (r : R) : M R := match r with
  | .fr xs => fun st => .ok (.d (.loc st.length)) (st ++ [.lst xs])
  | _ => badM
theorem ev_newl {a : E} : ev C (.newl a) en = bndT (ev C a en) fun r => newlM r := by
  show (bndT (ev C a en) fun r => match r with
    | .fr xs => fun st => .ok (R.d (.loc st.length)) (st ++ [.lst xs])
    | _ => badM) = _
  rfl
theorem newlM_fr {xs : List D} : newlM (.fr xs) st = .ok (.d (.loc st.length)) (st ++ [.lst xs]) := rfl
theorem ev_itv {a : E} : ev C (.itv a) en = bndT (ev C a en) fun x => itvM x.val := rfl
theorem ev_rng {a : E} : ev C (.rng a) en = bndT (ev C a en) fun x => rngM x.val.items := rfl
theorem ev_enu {a : E} {k : Int} : ev C (.enu a k) en = bndT (ev C a en) fun x => enuM k x.val := rfl
theorem ev_zip {a b : E} : ev C (.zip a b) en = bndT (ev C a en) fun x => bndT (ev C b en) fun y => zipM false x.val y.val := rfl
theorem ev_isi {a : E} {t : Ty} : ev C (.isi a t) en = bndT (ev C a en) fun x => isiM x.val t := rfl
/-! ### statements -/
theorem ex_skip : ex C .skip en = rtn (.nx en) := rfl
def thenM (f : En → M Fl) (fl : Fl) : M Fl := match fl with
  | .nx e => f e
  | .rt d => rtn (.rt d)
  | .bk e => rtn (.bk e)
  | .ct e => rtn (.ct e)
theorem thenM_nx {f : En → M Fl} {e : En} : thenM f (.nx e) = f e := rfl
theorem thenM_rt {f : En → M Fl} {e : D} : thenM f (.rt e) = rtn (.rt e) := rfl
theorem thenM_bk {f : En → M Fl} {e : En} : thenM f (.bk e) = rtn (.bk e) := rfl
theorem thenM_ct {f : En → M Fl} {e : En} : thenM f (.ct e) = rtn (.ct e) := rfl
theorem ex_seq {a b : S} : ex C (.seq a b) en = bndT (ex C a en) fun fl => thenM (ex C b) fl := by
  show (bndT (ex C a en) fun fl => match fl with
    | .nx e => ex C b e
    | o => rtn o) = _
  unfold bndT
  congr 1; funext fl
  cases fl <;> rfl
theorem ex_set {i : Nat} {e : E} : ex C (.set i e) en = bndT (ev C e en) fun r => rtn (.nx (en.set i (some r.val))) := rfl
theorem ex_unp {is : List Nat} {e : E} : ex C (.unp is e) en = bndT (ev C e en) fun r => bndT (optM (bindT (.tp is) r.val en)) fun en1 => rtn (.nx en1) := by
  show (bndT (ev C e en) fun r => match bindT (.tp is) r.val en with
    | some en1 => rtn (Fl.nx en1)
    | none => badM) = _
  unfold bndT
  congr 1; funext r
  cases bindT (.tp is) r.val en <;> rfl
theorem ex_sti {o i v : E} : ex C (.sti o i v) en = bndT (ev C v en) fun z => bndT (ev C o en) fun x => bndT (ev C i en) fun y => bndT (stiM x.val y.val z.val) fun _ => rtn (.nx en) := rfl
theorem ex_stk {o v : E} {k : Str} : ex C (.stk o k v) en = bndT (ev C v en) fun z => bndT (ev C o en) fun x => bndT (stkM x.val k z.val) fun _ => rtn (.nx en) := rfl
def aug1 (op : BOp) (d r : D) : M R := augM op d r
theorem ex_aug {i : Nat} {op : BOp} {e : E} : ex C (.aug op i e) en = bndT (getM en[i]?) fun d => bndT (ev C e en) fun r => bndT (augM op d.val r.val) fun z => rtn (.nx (en.set i (some z.val))) := by
  show (match en[i]? with
    | some (some d) => bndT (ev C e en) fun r => bndT (augM op d r.val) fun z => rtn (Fl.nx (en.set i (some z.val)))
    | _ => badM) = _
  unfold getM
  cases en[i]? with
  | none => rfl
  | some o => cases o <;> rfl
def augiM (C : Cfg) (op : BOp) (e : E) (en : En) (x y : D) : M Fl := match x with
    | .loc n => bndT (idxM (.loc n) y) fun old => bndT (ev C e en) fun r => bndT (augM op old.val r.val) fun z => bndT (stiM (.loc n) y z.val) fun _ => rtn (.nx en)
    | _ => badM
theorem ex_augi {op : BOp} {o i e : E} : ex C (.augi op o i e) en = bndT (ev C o en) fun x => bndT (ev C i en) fun y => augiM C op e en x.val y.val := by
  show (bndT (ev C o en) fun x => bndT (ev C i en) fun y => match x.val with
    | .loc n => bndT (idxM (.loc n) y.val) fun old => bndT (ev C e en) fun r => bndT (augM op old.val r.val) fun z => bndT (stiM (.loc n) y.val z.val) fun _ => rtn (Fl.nx en)
    | _ => badM) = _
  rfl
theorem augiM_loc {op : BOp} {e : E} {n : Nat} {y : D} : augiM C op e en (.loc n) y = bndT (idxM (.loc n) y) fun old => bndT (ev C e en) fun r => bndT (augM op old.val r.val) fun z => bndT (stiM (.loc n) y z.val) fun _ => rtn (.nx en) := rfl
theorem ex_exp {e : E} : ex C (.exp e) en = bndT (ev C e en) fun _ => rtn (.nx en) := rfl
theorem ex_ret {e : E} : ex C (.ret e) en = bndT (ev C e en) fun r => rtn (.rt r.val) := rfl
theorem ex_retn : ex C .retn en = rtn (.rt .non) := rfl
theorem ex_ite {c : E} {a b : S} : ex C (.ite c a b) en = bndT (ev C c en) fun x => bndT (truM x.val) fun k => selM k (ex C a en) (ex C b en) := by
  show bnd (bnd (ev C c en) fun x => truM x.val) (fun k => if k = true then ex C a en else ex C b en) = _
  funext st
  unfold bndT bnd
  cases ev C c en st with
  | ok x s =>
    simp only []
    cases truM x.val s with
    | ok k s2 => cases k <;> rfl
    | _ => rfl
  | _ => rfl
theorem ex_brk : ex C .brk en = rtn (.bk en) := rfl
theorem ex_cnt : ex C .cnt en = rtn (.ct en) := rfl
end
end PD

/-! What the operators say of plain values. -/
namespace PD
open PySem PySem.Spec PyProof.Rows L2
abbrev tI (ns : List Int) : D := .tup (ns.map D.int)
abbrev lI (ns : List Int) : D := .lst (ns.map D.int)
section
variable {α β : Type} {st s : Store} {C : Cfg} {en : En} {i j : Int} {a b : Bool} {xs ys : List D}
theorem val_d {x : D} : R.val (.d x) = x := rfl
theorem val_fr : R.val (.fr xs) = .lst xs := rfl
theorem items_tup : D.items (.tup xs) = xs := rfl
/-! truth -/
theorem tru_bl : truM (.bl b) = rtn b := rfl
theorem tru_int : truM (.int i) = rtn (i != 0) := rfl
theorem tru_non : truM .non = rtn false := rfl
theorem tru_tup : truM (.tup xs) = rtn (!xs.isEmpty) := rfl
theorem tru_lst : truM (.lst xs) = rtn (!xs.isEmpty) := rfl
/-! operators -/
theorem add_int : binM .add (.int i) (.int j) = rtn (.d (.int (i + j))) := rfl
theorem add_bl : binM .add (.int i) (.bl b) = rtn (.d (.int (i + if b then 1 else 0))) := rfl
theorem sub_int : binM .sub (.int i) (.int j) = rtn (.d (.int (i - j))) := rfl
theorem mul_int : binM .mul (.int i) (.int j) = selM (mulOk i j) (rtn (.d (.int (i * j)))) badM := sel_is
theorem fdiv_int : binM .fdiv (.int i) (.int j) = selM (divOk j) (rtn (.d (.int (i.fdiv j)))) badM := sel_is
theorem mod_int : binM .mod (.int i) (.int j) = selM (decide (j ≠ 0)) (rtn (.d (.int (i.fmod j)))) badM := sel_is
theorem add_tup : binM .add (.tup xs) (.tup ys) = selM (lim (xs.length + ys.length)) (rtn (.d (.tup (xs ++ ys)))) badM := sel_is
theorem add_lst : binM .add (.lst xs) (.lst ys) = selM (lim (xs.length + ys.length)) (rtn (.fr (xs ++ ys))) badM := seln_is
theorem mul_lst : binM .mul (.lst xs) (.int i) = selM (lim (xs.length * i.toNat) && lim i.natAbs) (rtn (.fr (List.replicate i.toNat xs).flatten)) badM := seln_is
theorem pow_int : binM .pow (.int i) (.int j) = selM (decide (0 ≤ j) && decide ((Builtin.Int.intBits i : Int) * j ≤ 2 ^ 27)) (rtn (.d (.int (i ^ j.toNat)))) badM := sel_is
theorem aug_add : augM .add (.int i) (.int j) = rtn (.d (.int (i + j))) := rfl
theorem aug_sub : augM .sub (.int i) (.int j) = rtn (.d (.int (i - j))) := rfl
theorem aug_mul : augM .mul (.int i) (.int j) = selM (mulOk i j) (rtn (.d (.int (i * j)))) badM := sel_is
/-! comparing -/
theorem cmp_lt : cmpM .lt (.int i) (.int j) = rtn (decide (i < j)) := rfl
theorem cmp_le : cmpM .le (.int i) (.int j) = rtn (decide (i ≤ j)) := rfl
theorem cmp_gt : cmpM .gt (.int i) (.int j) = rtn (decide (j < i)) := rfl
theorem cmp_ge : cmpM .ge (.int i) (.int j) = rtn (decide (j ≤ i)) := rfl
/-- equality of data, as a look at two data -/
theorem cmp_eq_of {x y : D} {p q : PyData} (h1 : pyS st x = some p) (h2 : pyS st y = some q) (h3 : SeqAt.shaped p = true) (h4 : SeqAt.shaped q = true) : cmpM .eq x y st = .ok (PyData.eqv p q) st := by
  unfold cmpM cmpS eqS
  simp [h1, h2, h3, h4]
theorem cmp_ne_of {x y : D} {p q : PyData} (h1 : pyS st x = some p) (h2 : pyS st y = some q) (h3 : SeqAt.shaped p = true) (h4 : SeqAt.shaped q = true) : cmpM .ne x y st = .ok (!PyData.eqv p q) st := by
  unfold cmpM cmpS eqS
  simp [h1, h2, h3, h4]
theorem eqv_ints : ∀ (ms ns : List Int), PyData.eqvAll (ms.map PyData.int) (ns.map PyData.int) = decide (ms = ns)
  | [], [] => by simp [PyData.eqvAll]
  | [], _ :: _ => by simp [PyData.eqvAll]
  | _ :: _, [] => by simp [PyData.eqvAll]
  | a :: ms, b :: ns => by
    simp only [List.map_cons, PyData.eqvAll, PyData.eqv, eqv_ints ms ns, List.cons.injEq]
    by_cases h : a = b <;> simp [h]
theorem eqv_bls : ∀ (ms ns : List Bool), PyData.eqvAll (ms.map PyData.bool) (ns.map PyData.bool) = decide (ms = ns)
  | [], [] => by simp [PyData.eqvAll]
  | [], _ :: _ => by simp [PyData.eqvAll]
  | _ :: _, [] => by simp [PyData.eqvAll]
  | a :: ms, b :: ns => by
    simp only [List.map_cons, PyData.eqvAll, PyData.eqv, eqv_bls ms ns, List.cons.injEq]
    by_cases h : a = b <;> simp [h]
mutual
theorem eqv_refl : ∀ p : PyData, p.canLay0 = true → PyData.eqv p p = true
  | .none, _ => by simp [PyData.eqv]
  | .bool _, _ => by simp [PyData.eqv]
  | .int _, _ => by simp [PyData.eqv]
  | .str _, _ => by simp [PyData.eqv]
  | .list xs, h => by
    simp only [PyData.eqv]
    exact eqvAll_refl xs (by simpa [PyData.canLay0] using h)
  | .tuple xs, h => by
    simp only [PyData.eqv]
    exact eqvAll_refl xs (by simpa [PyData.canLay0] using h)
  | .dict _, h => by simp [PyData.canLay0] at h
theorem eqvAll_refl : ∀ xs : List PyData, PyData.canLayAll0 xs = true → PyData.eqvAll xs xs = true
  | [], _ => by simp [PyData.eqvAll]
  | x :: xs, h => by
    rw [PyData.canLayAll0, Bool.and_eq_true] at h
    simp only [PyData.eqvAll, eqv_refl x h.1, eqvAll_refl xs h.2, Bool.and_self]
end
theorem shaped_tI (ns : List Int) : SeqAt.shaped (.tuple (ns.map PyData.int)) = true := by
  unfold SeqAt.shaped
  simp [PyData.canLay0, PyData.depth, lay_ints, dep_ints]
theorem lay_bls (ns : List Bool) : PyData.canLayAll0 (ns.map PyData.bool) = true := by
  induction ns with
  | nil => simp [PyData.canLayAll0]
  | cons n ns ih => simp [PyData.canLayAll0, PyData.canLay0, ih]
theorem dep_bls (ns : List Bool) : PyData.depthAll (ns.map PyData.bool) = 0 := by
  induction ns with
  | nil => simp [PyData.depthAll]
  | cons n ns ih => simp [PyData.depthAll, PyData.depth, ih]
theorem shaped_lB (ns : List Bool) : SeqAt.shaped (.list (ns.map PyData.bool)) = true := by
  unfold SeqAt.shaped
  simp [PyData.canLay0, PyData.depth, lay_bls, dep_bls]
theorem pyL_bls (ns : List Bool) : pyL (ns.map D.bl) = some (ns.map PyData.bool) := by
  induction ns with
  | nil => simp [pyL]
  | cons n ns ih => simp [pyL, D.py, ih]
theorem pyS_tI (ns : List Int) : pyS st (tI ns) = some (.tuple (ns.map PyData.int)) := by simp [pyS, D.py, pyL_ints]
theorem pyS_lI (ns : List Int) : pyS st (lI ns) = some (.list (ns.map PyData.int)) := by simp [pyS, D.py, pyL_ints]
theorem pyS_lB (ns : List Bool) : pyS st (.lst (ns.map D.bl)) = some (.list (ns.map PyData.bool)) := by simp [pyS, D.py, pyL_bls]
theorem eq_int : cmpM .eq (.int i) (.int j) = rtn (decide (i = j)) := by
  funext st
  rw [cmp_eq_of (p := .int i) (q := .int j) (by simp [pyS, D.py]) (by simp [pyS, D.py]) (by simp [SeqAt.shaped, PyData.canLay0, PyData.depth]) (by simp [SeqAt.shaped, PyData.canLay0, PyData.depth])]
  simp [PyData.eqv, rtn]; rfl
theorem ne_int : cmpM .ne (.int i) (.int j) = rtn (!decide (i = j)) := by
  funext st
  rw [cmp_ne_of (p := .int i) (q := .int j) (by simp [pyS, D.py]) (by simp [pyS, D.py]) (by simp [SeqAt.shaped, PyData.canLay0, PyData.depth]) (by simp [SeqAt.shaped, PyData.canLay0, PyData.depth])]
  simp [PyData.eqv, rtn]; rfl
theorem eq_bl : cmpM .eq (.bl a) (.bl b) = rtn (decide (a = b)) := by
  funext st
  rw [cmp_eq_of (p := .bool a) (q := .bool b) (by simp [pyS, D.py]) (by simp [pyS, D.py]) (by simp [SeqAt.shaped, PyData.canLay0, PyData.depth]) (by simp [SeqAt.shaped, PyData.canLay0, PyData.depth])]
  cases a <;> cases b <;> simp [PyData.eqv, rtn]
theorem ne_bl : cmpM .ne (.bl a) (.bl b) = rtn (!decide (a = b)) := by
  funext st
  rw [cmp_ne_of (p := .bool a) (q := .bool b) (by simp [pyS, D.py]) (by simp [pyS, D.py]) (by simp [SeqAt.shaped, PyData.canLay0, PyData.depth]) (by simp [SeqAt.shaped, PyData.canLay0, PyData.depth])]
  cases a <;> cases b <;> simp [PyData.eqv, rtn]
theorem eq_tI (ms ns : List Int) : cmpM .eq (.tup (ms.map D.int)) (.tup (ns.map D.int)) = rtn (decide (ms = ns)) := by
  funext st
  rw [cmp_eq_of (pyS_tI ms) (pyS_tI ns) (shaped_tI ms) (shaped_tI ns)]
  simp [PyData.eqv, eqv_ints, rtn]
theorem ne_tI (ms ns : List Int) : cmpM .ne (.tup (ms.map D.int)) (.tup (ns.map D.int)) = rtn (!decide (ms = ns)) := by
  funext st
  rw [cmp_ne_of (pyS_tI ms) (pyS_tI ns) (shaped_tI ms) (shaped_tI ns)]
  simp [PyData.eqv, eqv_ints, rtn]
theorem eq_lI (ms ns : List Int) : cmpM .eq (.lst (ms.map D.int)) (.lst (ns.map D.int)) = rtn (decide (ms = ns)) := by
  funext st
  rw [cmp_eq_of (pyS_lI ms) (pyS_lI ns) (shaped_ints ms) (shaped_ints ns)]
  simp [PyData.eqv, eqv_ints, rtn]
theorem ne_lI (ms ns : List Int) : cmpM .ne (.lst (ms.map D.int)) (.lst (ns.map D.int)) = rtn (!decide (ms = ns)) := by
  funext st
  rw [cmp_ne_of (pyS_lI ms) (pyS_lI ns) (shaped_ints ms) (shaped_ints ns)]
  simp [PyData.eqv, eqv_ints, rtn]
theorem eq_tI0 (ms : List Int) : cmpM .eq (.tup (ms.map D.int)) (.tup []) = rtn (decide (ms = [])) := eq_tI ms []
theorem ne_tI0 (ms : List Int) : cmpM .ne (.tup (ms.map D.int)) (.tup []) = rtn (!decide (ms = [])) := ne_tI ms []
theorem eq_lI0 (ms : List Int) : cmpM .eq (.lst (ms.map D.int)) (.lst []) = rtn (decide (ms = [])) := eq_lI ms []
theorem ne_lI0 (ms : List Int) : cmpM .ne (.lst (ms.map D.int)) (.lst []) = rtn (!decide (ms = [])) := ne_lI ms []
theorem ne_lB0 (ms : List Bool) : cmpM .ne (.lst (ms.map D.bl)) (.lst []) = rtn (!decide (ms = [])) := by
  funext st
  have e := eqv_bls ms []
  have h0 : pyS st (.lst []) = some (.list (([] : List Bool).map PyData.bool)) := pyS_lB []
  rw [cmp_ne_of (pyS_lB ms) h0 (shaped_lB ms) (shaped_lB [])]
  rw [PyData.eqv, e]; rfl
theorem eq_str {x y : Str} (hx : PyData.strOk x = true) (hy : PyData.strOk y = true) : cmpM .eq (.str x) (.str y) = rtn (x == y) := by
  funext st
  rw [cmp_eq_of (p := .str x) (q := .str y) (by simp [pyS, D.py]) (by simp [pyS, D.py]) (by simp [SeqAt.shaped, PyData.canLay0, PyData.depth, hx]) (by simp [SeqAt.shaped, PyData.canLay0, PyData.depth, hy])]
  simp [PyData.eqv, rtn]
theorem is_non : cmpM .is .non .non = rtn true := rfl
theorem isn_non : cmpM .isn .non .non = rtn false := rfl
/-! ready-made functions -/
theorem len_tup : biM .len [.tup xs] = rtn (.d (.int xs.length)) := rfl
theorem len_lst : biM .len [.lst xs] = rtn (.d (.int xs.length)) := rfl
theorem tuple_tup : biM .tuple [.tup xs] = rtn (.d (.tup xs)) := rfl
theorem tuple_lst : biM .tuple [.lst xs] = rtn (.d (.tup xs)) := rfl
theorem list_tup : biM .list [.tup xs] = rtn (.fr xs) := rfl
theorem list_lst : biM .list [.lst xs] = rtn (.fr xs) := rfl
theorem int_int : biM .int [.int i] = rtn (.d (.int i)) := rfl
theorem int_bl : biM .int [.bl b] = rtn (.d (.int (if b then 1 else 0))) := rfl
theorem abs_int : biM .abs [.int i] = rtn (.d (.int (if i < 0 then -i else i))) := rfl
theorem max2 : biM .max [.int i, .int j] = rtn (.d (.int (if j > i then j else i))) := rfl
theorem min2 : biM .min [.int i, .int j] = rtn (.d (.int (if j < i then j else i))) := rfl
theorem intsOf_map (ns : List Int) : intsOf (ns.map D.int) = some ns := by
  induction ns with
  | nil => rfl
  | cons n ns ih => rw [List.map_cons, intsOf, ih]; rfl
theorem blsOf_map (ns : List Bool) : blsOf (ns.map D.bl) = some ns := by
  induction ns with
  | nil => rfl
  | cons n ns ih => rw [List.map_cons, blsOf, ih]; rfl
theorem sum_lI (ns : List Int) : biM .sum [.lst (ns.map D.int)] = rtn (.d (.int ns.sum)) := by
  funext st
  simp [biM, seqOf, intsOf_map, rtn]
theorem sum_tI (ns : List Int) : biM .sum [.tup (ns.map D.int)] = rtn (.d (.int ns.sum)) := by
  funext st
  simp [biM, seqOf, intsOf_map, rtn]
theorem mul_tup : binM .mul (.tup xs) (.int i) = selM (lim (xs.length * i.toNat) && lim i.natAbs) (rtn (.d (.tup (List.replicate i.toNat xs).flatten))) badM := sel_is
theorem max_lI (n : Int) (ns : List Int) : biM .max [.lst ((n :: ns).map D.int)] = rtn (.d (.int (maxI n ns))) := by
  funext st
  have := intsOf_map (n :: ns)
  simp only [biM, lstOf, Option.bind_some, this, rtn]
theorem min_lI (n : Int) (ns : List Int) : biM .min [.lst ((n :: ns).map D.int)] = rtn (.d (.int (minI n ns))) := by
  funext st
  have := intsOf_map (n :: ns)
  simp only [biM, lstOf, Option.bind_some, this, rtn]
theorem all_lB (ns : List Bool) : biM .all [.lst (ns.map D.bl)] = rtn (.d (.bl (ns.all id))) := by
  funext st
  simp [biM, lstOf, blsOf_map, rtn]
theorem any_lB (ns : List Bool) : biM .any [.lst (ns.map D.bl)] = rtn (.d (.bl (ns.any id))) := by
  funext st
  simp [biM, lstOf, blsOf_map, rtn]
/-! lists in cells -/
def cellM {α : Type} (o : Option Cell) (m : List D → M α) (_m : Mk m := .mk) : M α := match o with
  | some (.lst xs) => m xs
  | _ => badM
theorem cellM_s {m : List D → M α} : cellM (some (.lst xs)) m = m xs := rfl
theorem lstM_loc {n : Nat} {m : List D → M α} : (lstM (.loc n) m) st = (cellM st[n]? m) st := by
  show (match (match st[n]? with
    | some (.lst xs) => some xs
    | _ => none) with
    | some xs => m xs st
    | none => .bad) = _
  unfold cellM
  cases st[n]? with
  | none => rfl
  | some c => cases c <;> rfl
theorem lstM_lst {m : List D → M α} : lstM (.lst xs) m = m xs := rfl
theorem len_loc {n : Nat} : biM .len [.loc n] st = (cellM st[n]? (fun xs => rtn (.d (.int xs.length)))) st := by
  show (match (match st[n]? with
    | some (.lst xs) => some xs
    | _ => none) with
    | some ys => Out.ok (R.d (.int ys.length)) st
    | none => Out.bad) = _
  unfold cellM
  cases st[n]? with
  | none => rfl
  | some c => cases c <;> rfl
theorem tuple_loc {n : Nat} : biM .tuple [.loc n] st = (cellM st[n]? (fun xs => rtn (.d (.tup xs)))) st := by
  show (match (match st[n]? with
    | some (.lst xs) => some xs
    | _ => none) with
    | some ys => Out.ok (R.d (.tup ys)) st
    | none => Out.bad) = _
  unfold cellM
  cases st[n]? with
  | none => rfl
  | some c => cases c <;> rfl
theorem app_loc {n : Nat} {y : D} : mthM .append (.loc n) [y] st = (cellM st[n]? (fun ys => selM (lim ys.length) (fun st => .ok (.d .non) (st.set n (.lst (ys ++ [y])))) badM)) st := by
  show (match st[n]? with
    | some (.lst ys) => if lim ys.length = true then Out.ok (R.d .non) (st.set n (.lst (ys ++ [y]))) else Out.bad
    | _ => Out.bad) = _
  unfold cellM
  cases st[n]? with
  | none => rfl
  | some c => cases c <;> rfl
theorem ext_loc {n : Nat} {zs : List D} : mthM .extend (.loc n) [.lst zs] st = (cellM st[n]? (fun ys => selM (lim (ys.length + zs.length)) (fun st => .ok (.d .non) (st.set n (.lst (ys ++ zs)))) badM)) st := by
  show (match st[n]?, some zs with
    | some (.lst ys), some zs => if lim (ys.length + zs.length) = true then Out.ok (R.d .non) (st.set n (.lst (ys ++ zs))) else Out.bad
    | _, _ => Out.bad) = _
  unfold cellM
  cases st[n]? with
  | none => rfl
  | some c => cases c <;> rfl
theorem idxM_tup {k : Int} : idxM (.tup xs) (.int k) = bndT (optM ((ixN xs.length k).bind (xs[·]?))) fun d => rtn (.d d) := by
  funext st
  show (match (ixN xs.length k).bind (xs[·]?) with
      | some d => Out.ok (R.d d) st
      | none => .bad) = _
  cases (ixN xs.length k).bind (xs[·]?) <;> rfl
theorem idxM_lst {k : Int} : idxM (.lst xs) (.int k) = bndT (optM ((ixN xs.length k).bind (xs[·]?))) fun d => rtn (.d d) := by
  funext st
  show (match (ixN xs.length k).bind (xs[·]?) with
      | some d => Out.ok (R.d d) st
      | none => .bad) = _
  cases (ixN xs.length k).bind (xs[·]?) <;> rfl
theorem idxM_loc {n : Nat} {k : Int} : idxM (.loc n) (.int k) st = (cellM st[n]? (fun xs => bndT (optM ((ixN xs.length k).bind (xs[·]?))) fun d => rtn (.d d))) st := by
  show (match st[n]? with
      | some (.lst xs) => match (ixN xs.length k).bind (xs[·]?) with
        | some d => Out.ok (R.d d) st
        | none => Out.bad
      | _ => Out.bad) = _
  unfold cellM
  cases st[n]? with
  | none => rfl
  | some c =>
    cases c with
    | lst xs =>
      show (match (ixN xs.length k).bind (xs[·]?) with
        | some d => Out.ok (R.d d) st
        | none => .bad) = bnd (optM ((ixN xs.length k).bind (xs[·]?))) (fun d => rtn (.d d)) st
      cases (ixN xs.length k).bind (xs[·]?) <;> rfl
    | _ => rfl
theorem stiM_loc {n : Nat} {k : Int} {v : D} : stiM (.loc n) (.int k) v st = (cellM st[n]? (fun xs => bndT (optM (ixN xs.length k)) fun j => fun st => .ok () (st.set n (.lst (xs.set j v))))) st := by
  show (match st[n]? with
      | some (.lst xs) => match ixN xs.length k with
        | some j => Out.ok () (st.set n (.lst (xs.set j v)))
        | none => Out.bad
      | _ => Out.bad) = _
  unfold cellM
  cases st[n]? with
  | none => rfl
  | some c =>
    cases c with
    | lst xs =>
      show (match ixN xs.length k with
        | some j => Out.ok () (st.set n (.lst (xs.set j v)))
        | none => .bad) = bnd (optM (ixN xs.length k)) (fun j => fun st => .ok () (st.set n (.lst (xs.set j v)))) st
      cases ixN xs.length k <;> rfl
    | _ => rfl
theorem ixN_pos {n : Nat} {k : Int} (h : 0 ≤ k ∧ k < n) : ixN n k = some k.toNat := by
  show L2.ixN n k = _
  unfold L2.ixN
  rw [if_pos h.1, if_pos h.2]
theorem ixN_neg {n : Nat} {k : Int} (h : k < 0 ∧ -(n : Int) ≤ k) : ixN n k = some (k + n).toNat := by
  show L2.ixN n k = _
  unfold L2.ixN
  rw [if_neg (by omega), if_pos h.2]
/-! slices -/
theorem bnd_no {d : D} : bndM false d = rtn none := rfl
theorem bnd_yes : bndM true (.int i) = rtn (some i) := rfl
theorem slc_tup {p q : Option Int} : slcM (.tup xs) p q = rtn (.d (.tup (cutL xs p q))) := rfl
theorem slc_lst {p q : Option Int} : slcM (.lst xs) p q = rtn (.fr (cutL xs p q)) := rfl
theorem slc_loc {n : Nat} {p q : Option Int} : slcM (.loc n) p q st = (cellM st[n]? (fun xs => rtn (.fr (cutL xs p q)))) st := by
  show (match st[n]? with
    | some (.lst xs) => Out.ok (R.fr (cutL xs p q)) st
    | _ => Out.bad) = _
  unfold cellM
  cases st[n]? with
  | none => rfl
  | some c => cases c <;> rfl
theorem cut_map (f : α → β) (l : List α) (p q : Option Int) : cutL (l.map f) p q = (cutL l p q).map f := by
  unfold cutL
  rw [List.length_map, List.map_take, List.map_drop]
theorem cut_from (l : List α) {k : Int} (h : 0 ≤ k) : cutL l (some k) none = l.drop k.toNat := by
  unfold cutL
  have e1 : HT.sIx l.length 0 (some k) = min k.toNat l.length := by
    show (if k < 0 then _ else _) = _
    rw [if_neg (by omega)]
  have e2 : HT.sIx l.length l.length none = l.length := rfl
  rw [e1, e2]
  by_cases hk : k.toNat ≤ l.length
  · rw [Nat.min_eq_left hk, List.take_of_length_le (by rw [List.length_drop]; exact Nat.le_refl _)]
  · rw [Nat.min_eq_right (by omega), List.drop_of_length_le (Nat.le_refl _), List.drop_of_length_le (by omega), List.take_nil]
theorem cut_to (l : List α) {k : Int} (h : 0 ≤ k) : cutL l none (some k) = l.take k.toNat := by
  unfold cutL
  have e1 : HT.sIx l.length 0 none = 0 := rfl
  have e2 : HT.sIx l.length l.length (some k) = min k.toNat l.length := by
    show (if k < 0 then _ else _) = _
    rw [if_neg (by omega)]
  rw [e1, e2, Nat.sub_zero, List.drop_zero]
  by_cases hk : k.toNat ≤ l.length
  · rw [Nat.min_eq_left hk]
  · rw [Nat.min_eq_right (by omega), List.take_length, List.take_of_length_le (i := k.toNat) (by omega)]
theorem cut_mid (l : List α) {p q : Int} (h : 0 ≤ p) (h2 : 0 ≤ q) : cutL l (some p) (some q) = (l.drop p.toNat).take (q.toNat - p.toNat) := by
  unfold cutL
  have e1 : HT.sIx l.length 0 (some p) = min p.toNat l.length := by
    show (if p < 0 then _ else _) = _
    rw [if_neg (by omega)]
  have e2 : HT.sIx l.length l.length (some q) = min q.toNat l.length := by
    show (if q < 0 then _ else _) = _
    rw [if_neg (by omega)]
  rw [e1, e2]
  by_cases hp : p.toNat ≤ l.length
  · rw [Nat.min_eq_left hp]
    by_cases hq : q.toNat ≤ l.length
    · rw [Nat.min_eq_left hq]
    · rw [Nat.min_eq_right (by omega), List.take_of_length_le (i := q.toNat - p.toNat) (by rw [List.length_drop]; omega), List.take_of_length_le (by rw [List.length_drop]; omega)]
  · rw [Nat.min_eq_right (a := p.toNat) (by omega), List.drop_of_length_le (Nat.le_refl _), List.drop_of_length_le (by omega), List.take_nil, List.take_nil]
theorem cut_butlast (l : List α) : cutL l none (some (-1)) = l.dropLast := by
  unfold cutL
  have e1 : HT.sIx l.length 0 none = 0 := rfl
  have e2 : HT.sIx l.length l.length (some (-1)) = l.length - 1 := by
    show (if (-1 : Int) < 0 then ((-1 : Int) + (l.length : Int)).toNat else min (-1 : Int).toNat l.length) = _
    rw [if_pos (by decide)]; omega
  rw [e1, e2, Nat.sub_zero, List.drop_zero, List.dropLast_eq_take]
theorem rev_tup : revM (.tup xs) = rtn (.d (.tup xs.reverse)) := rfl
theorem rev_lst : revM (.lst xs) = rtn (.fr xs.reverse) := rfl
/-! what a loop walks -/
theorem itv_tup : itvM (.tup xs) = selM (lim xs.length) (rtn (.it xs [])) badM := seln_is
theorem itv_lst : itvM (.lst xs) = selM (lim xs.length) (rtn (.it xs [])) badM := seln_is
theorem enu_tup {k : Int} : enuM k (.tup xs) = selM (lim xs.length) (rtn (.it (enumL k xs) [])) badM := seln_is
theorem enu_lst {k : Int} : enuM k (.lst xs) = selM (lim xs.length) (rtn (.it (enumL k xs) [])) badM := seln_is
theorem zip_tup : zipM false (.tup xs) (.tup ys) = selM (lim xs.length) (rtn (.it (zipL xs ys) [])) badM := seln_is
theorem zip_lst : zipM false (.lst xs) (.lst ys) = selM (lim xs.length) (rtn (.it (zipL xs ys) [])) badM := seln_is
theorem rng_one : rngM [.int i] = selM (smallI i) (rtn (.it (rngL 0 i.toNat) [])) badM := sel_is
theorem rng_two : rngM [.int i, .int j] = selM (smallI i && smallI j) (rtn (.it (rngL i (j - i).toNat) [])) badM := sel_is
theorem lim_of {n : Nat} (h : n ≤ 1000000) : lim n = true := decide_eq_true h
theorem small_of {i : Int} (h : -1000000 ≤ i ∧ i ≤ 1000000) : smallI i = true := by
  unfold smallI
  rw [decide_eq_true h.1, decide_eq_true h.2]; rfl
theorem and_of {a b : Bool} (h1 : a = true) (h2 : b = true) : (a && b) = true := by rw [h1, h2]; rfl
theorem rngL_map (lo : Int) : ∀ n : Nat, rngL lo n = (List.range n).map fun (i : Nat) => D.int (lo + (i : Int))
  | 0 => rfl
  | n + 1 => by
    rw [List.range_succ_eq_map, List.map_cons, List.map_map, rngL, rngL_map (lo + 1) n]
    congr 1
    · simp
    · refine List.map_congr_left fun i _ => ?_
      show D.int _ = D.int _
      congr 1
      simp; omega
theorem enumL_map (g : α → D) (k : Int) : ∀ l : List α, enumL k (l.map g) = l.zipIdx.map fun x => D.tup [.int (k + (x.2 : Int)), g x.1] := by
  have go : ∀ (l : List α) (k : Int) (m : Nat), enumL (k + (m : Int)) (l.map g) = (l.zipIdx m).map fun x => D.tup [.int (k + (x.2 : Int)), g x.1] := by
    intro l
    induction l with
    | nil => intro k m; rfl
    | cons a l ih =>
      intro k m
      rw [List.map_cons, enumL, List.zipIdx_cons, List.map_cons, ← ih k (m + 1)]
      congr 2
      push_cast; omega
  intro l
  have := go l k 0
  simpa using this
theorem zipL_map {α β : Type} (g : α → D) (h : β → D) : ∀ (l : List α) (m : List β), zipL (l.map g) (m.map h) = (l.zip m).map fun x => D.tup [g x.1, h x.2]
  | [], _ => rfl
  | _ :: _, [] => rfl
  | a :: l, b :: m => by
    rw [List.map_cons, List.map_cons, zipL, zipL_map g h l m]; rfl
/-! targets -/
def turnF (tg : Tg) (f : En → M α) (x : D) (en : En) : M α := match bindT tg x en with
  | none => badM
  | some e => f e
theorem turnF_nm {n : Nat} {f : En → M α} {x : D} : turnF (.nm n) f x en = f (en.set n (some x)) := rfl
theorem turnF_tp {is : List Nat} {f : En → M α} : turnF (.tp is) f (.tup xs) en = bndT (optM (setAll is xs en)) f := by
  show (match setAll is xs en with
  | none => badM
  | some e => f e) = _
  cases setAll is xs en <;> rfl
theorem bindT_tp {is : List Nat} : bindT (.tp is) (.tup xs) en = setAll is xs en := rfl
theorem setAll_nil : setAll [] [] en = some en := rfl
theorem setAll_cons {i : Nat} {is : List Nat} {x : D} : setAll (i :: is) (x :: xs) en = setAll is xs (en.set i (some x)) := rfl
theorem turn_is {cond B : E} : turnM C cond B en = nox (bndT (ev C cond en) fun c => bndT (truM c.val) fun k => selM k (bndT (ev C B en) fun y => rtn (some y.val)) (rtn none)) := by
  unfold turnM
  congr 1; congr 1; funext c; congr 1; funext k; exact sel_is
theorem wipe_nil : PD.wipe en [] = en := rfl
theorem wipe_cons {v : Nat} {vs : List Nat} : PD.wipe en (v :: vs) = (PD.wipe en vs).set v none := rfl
end
end PD

/-! Loops, comprehensions, calls, the deck: what is to be shown. -/
namespace PD
open PySem PySem.Spec PyProof.Rows L2
section
variable {α β : Type} {st s : Store} {C : Cfg} {en : En}
/-! ### loops -/
def setMany (en : En) : List Nat → List (Option D) → En
  | i :: is, v :: vs => setMany (en.set i v) is vs
  | _, _ => en
/-- what a turn must end in -/
def TurnQ (w : List Nat) (st0 : Store) (J : En → Store → Prop) (Q : Fl → Store → Prop) (fl : Fl) (s : Store) : Prop := match fl with
  | .nx e => watchOk w st0 s = true ∧ J e s
  | .ct e => watchOk w st0 s = true ∧ J e s
  | .bk e => Q (.nx e) s
  | .rt d => Q (.rt d) s
theorem turnQ_nx {w : List Nat} {st0 : Store} {J : En → Store → Prop} {Q : Fl → Store → Prop} {e : En} : TurnQ w st0 J Q (.nx e) s = (watchOk w st0 s = true ∧ J e s) := rfl
theorem turnQ_ct {w : List Nat} {st0 : Store} {J : En → Store → Prop} {Q : Fl → Store → Prop} {e : En} : TurnQ w st0 J Q (.ct e) s = (watchOk w st0 s = true ∧ J e s) := rfl
theorem turnQ_bk {w : List Nat} {st0 : Store} {J : En → Store → Prop} {Q : Fl → Store → Prop} {e : En} : TurnQ w st0 J Q (.bk e) s = Q (.nx e) s := rfl
theorem turnQ_rt {w : List Nat} {st0 : Store} {J : En → Store → Prop} {Q : Fl → Store → Prop} {d : D} : TurnQ w st0 J Q (.rt d) s = Q (.rt d) s := rfl
theorem watch0 (st0 s : Store) : watchOk [] st0 s = true := rfl
def loopM (T : Tg) (f : En → M Fl) (en : En) (r : R) : M Fl := match r with
  | .it xs w => fun st => forGo T f w st xs en st
  | _ => badM
theorem ex_loop {T : Tg} {G : E} {B : S} : ex C (.loop T G B) en = bndT (ev C G en) fun r => loopM T (ex C B) en r := rfl
theorem wp_forgo {T : Tg} {f : En → M Fl} {w : List Nat} {st0 : Store} (g : α → D) {Q : Fl → Store → Prop} (as : List α) (I : List α → En → Store → Prop)
    (step : ∀ p x r en st, as = p ++ x :: r → I p en st → Wp (turnF T f (g x) en st) (TurnQ w st0 (I (p ++ [x])) Q))
    (done : ∀ en st, I as en st → Q (.nx en) st) : ∀ r p en st, as = p ++ r → I p en st → Wp (forGo T f w st0 (r.map g) en st) Q
  | [], p, en, st, e, h => by
    rw [List.append_nil] at e
    subst e
    exact done en st h
  | x :: r, p, en, st, e, h => by
    have q := step p x r en st e h
    unfold turnF at q
    show Wp ((match bindT T (g x) en with
      | none => badM
      | some en1 => bnd (f en1) fun fl => match fl with
        | .nx e | .ct e => fun st => if watchOk w st0 st then forGo T f w st0 (r.map g) e st else .bad
        | .bk e => rtn (.nx e)
        | .rt d => rtn (.rt d)) st) Q
    cases hb : bindT T (g x) en with
    | none => rw [hb] at q; exact q.elim
    | some en1 =>
      rw [hb] at q
      simp only [] at q ⊢
      rw [wp_bnd0]
      refine wp_mono q fun fl s hq => ?_
      have ih := fun e s (h : watchOk w st0 s = true ∧ I (p ++ [x]) e s) => wp_forgo g as I step done r (p ++ [x]) e s (by rw [List.append_assoc]; exact ‹as = _›) h.2
      cases fl with
      | nx e =>
        show Wp (if watchOk w st0 s = true then _ else _) Q
        rw [if_pos hq.1]; exact ih e s hq
      | ct e =>
        show Wp (if watchOk w st0 s = true then _ else _) Q
        rw [if_pos hq.1]; exact ih e s hq
      | bk e => exact hq
      | rt d => exact hq
/-- a loop over items: ms are the slots that it changes -/
theorem wp_for {T : Tg} {f : En → M Fl} {w : List Nat} {xs : List D} (g : α → D) {Q : Fl → Store → Prop} (as : List α) (ms : List Nat) (vs0 : List (Option D)) (I : List α → List (Option D) → Store → Prop) (hx : xs = as.map g)
    (hv : en = setMany en ms vs0) (h0 : I [] vs0 st)
    (step : ∀ p x r vs s, as = p ++ x :: r → I p vs s → Wp (turnF T f (g x) (setMany en ms vs) s) (TurnQ w st (fun e s' => ∃ vs', e = setMany en ms vs' ∧ I (p ++ [x]) vs' s') Q))
    (done : ∀ vs s, I as vs s → Q (.nx (setMany en ms vs)) s) : Wp (loopM T f en (.it xs w) st) Q := by
  subst hx
  refine wp_forgo (st0 := st) g as (fun p e s => ∃ vs, e = setMany en ms vs ∧ I p vs s) (fun p x r e s ha ⟨vs, he, hI⟩ => ?_) (fun e s ⟨vs, he, hI⟩ => ?_) as [] en st rfl ⟨vs0, hv, h0⟩
  · subst he; exact step p x r vs s ha hI
  · subst he; exact done vs s hI
/-- a loop over a range: how many turns there were -/
theorem wp_forR {T : Tg} {f : En → M Fl} {w : List Nat} {lo : Int} {n : Nat} {Q : Fl → Store → Prop} (ms : List Nat) (vs0 : List (Option D)) (I : Nat → List (Option D) → Store → Prop)
    (hv : en = setMany en ms vs0) (h0 : I 0 vs0 st)
    (step : ∀ i vs s, i < n → I i vs s → Wp (turnF T f (.int (lo + (i : Int))) (setMany en ms vs) s) (TurnQ w st (fun e s' => ∃ vs', e = setMany en ms vs' ∧ I (i + 1) vs' s') Q))
    (done : ∀ vs s, I n vs s → Q (.nx (setMany en ms vs)) s) : Wp (loopM T f en (.it (rngL lo n) w) st) Q := by
  refine wp_for (fun i : Nat => D.int (lo + (i : Int))) (List.range n) ms vs0 (fun p vs s => I p.length vs s) (rngL_map lo n) hv h0 (fun p x r vs s ha hI => ?_) (fun vs s hI => ?_)
  · have hx : x = p.length := by
      have : (List.range n)[p.length]? = some x := by rw [ha, List.getElem?_append_right (Nat.le_refl _)]; simp
      rw [List.getElem?_range] at this
      · exact (Option.some.inj this).symm
      · have := congrArg List.length ha
        rw [List.length_range, List.length_append, List.length_cons] at this
        omega
    subst hx
    rw [List.length_append, List.length_singleton]
    refine step p.length vs s ?_ hI
    have := congrArg List.length ha
    rw [List.length_range, List.length_append, List.length_cons] at this
    omega
  · rw [List.length_range] at hI; exact done vs s hI
/-- a loop over enumerated items -/
theorem wp_forE {T : Tg} {f : En → M Fl} {w : List Nat} {k : Int} {xs : List D} {Q : Fl → Store → Prop} (g : α → D) (as : List α) (ms : List Nat) (vs0 : List (Option D)) (I : List α → List (Option D) → Store → Prop)
    (hx : xs = as.map g) (hv : en = setMany en ms vs0) (h0 : I [] vs0 st)
    (step : ∀ p x r vs s, as = p ++ x :: r → I p vs s → Wp (turnF T f (.tup [.int (k + (p.length : Int)), g x]) (setMany en ms vs) s) (TurnQ w st (fun e s' => ∃ vs', e = setMany en ms vs' ∧ I (p ++ [x]) vs' s') Q))
    (done : ∀ vs s, I as vs s → Q (.nx (setMany en ms vs)) s) : Wp (loopM T f en (.it (enumL k xs) w) st) Q := by
  subst hx
  have hz : ∀ p : List (α × Nat), ∀ q, as.zipIdx = p ++ q → p.map Prod.fst ++ q.map Prod.fst = as := fun p q h => by
    have := congrArg (List.map Prod.fst) h
    rw [List.map_append] at this
    rw [← this]; simp
  refine wp_for (fun x : α × Nat => D.tup [.int (k + (x.2 : Int)), g x.1]) as.zipIdx ms vs0 (fun p vs s => I (p.map Prod.fst) vs s) (enumL_map g k as) hv h0 (fun p x r vs s ha hI => ?_) (fun vs s hI => ?_)
  · have hi : x = (x.1, p.length) := by
      have h1 : as.zipIdx[p.length]? = some x := by rw [ha, List.getElem?_append_right (Nat.le_refl _)]; simp
      rw [List.getElem?_zipIdx] at h1
      cases h2 : as[p.length]? with
      | none => rw [h2] at h1; cases h1
      | some y =>
        rw [h2] at h1
        cases h1
        simp
    have h3 := hz p (x :: r) ha
    have := step (p.map Prod.fst) x.1 (r.map Prod.fst) vs s h3.symm hI
    rw [List.length_map] at this
    rw [hi, List.map_append, List.map_singleton]
    exact this
  · have : as.zipIdx.map Prod.fst = as := by simp
    rw [this] at hI
    exact done vs s hI
/-! ### comprehensions -/
theorem wp_compgo {T : Tg} {f : En → M (Option D)} {w : List Nat} {st0 : Store} (g : α → D) {Q : List D → Store → Prop} (as : List α) (I : List α → List D → Store → Prop)
    (step : ∀ p x r ys st, as = p ++ x :: r → I p ys st → Wp (turnF T f (g x) en st) (fun o s => watchOk w st0 s = true ∧ I (p ++ [x]) (ys ++ o.toList) s))
    : ∀ r p ys st, as = p ++ r → I p ys st → (∀ zs s, I as (ys ++ zs) s → Q zs s) → Wp (compGo T f w st0 en (r.map g) st) Q
  | [], p, ys, st, e, h, hq => by
    rw [List.append_nil] at e
    subst e
    exact hq [] st (by rw [List.append_nil]; exact h)
  | x :: r, p, ys, st, e, h, hq => by
    have q := step p x r ys st e h
    unfold turnF at q
    show Wp ((match bindT T (g x) en with
      | none => badM
      | some en1 => bnd (f en1) fun o => fun st => if watchOk w st0 st then
        bnd (compGo T f w st0 en (r.map g)) (fun ys => rtn (consO o ys)) st else .bad) st) Q
    cases hb : bindT T (g x) en with
    | none => rw [hb] at q; exact q.elim
    | some en1 =>
      rw [hb] at q
      simp only [] at q ⊢
      rw [wp_bnd0]
      refine wp_mono q fun o s h2 => ?_
      show Wp (if watchOk w st0 s = true then _ else _) Q
      rw [if_pos h2.1, wp_bnd0]
      refine wp_compgo g as I step r (p ++ [x]) (ys ++ o.toList) s (by rw [List.append_assoc]; exact ‹as = _›) h2.2 fun zs s2 h3 => ?_
      rw [wp_rtn]
      refine hq _ s2 ?_
      cases o with
      | none => rw [Option.toList_none, List.append_nil] at h3; exact h3
      | some y => rw [Option.toList_some, List.append_assoc] at h3; exact h3
/-- a comprehension that changes the store -/
theorem wp_compI {T : Tg} {f : En → M (Option D)} {w : List Nat} {xs : List D} (g : α → D) {Q : R → Store → Prop} (as : List α) (I : List α → List D → Store → Prop) (hx : xs = as.map g) (h0 : I [] [] st)
    (step : ∀ p x r ys s, as = p ++ x :: r → I p ys s → Wp (turnF T f (g x) en s) (fun o s' => watchOk w st s' = true ∧ I (p ++ [x]) (ys ++ o.toList) s'))
    (done : ∀ ys s, I as ys s → Q (.fr ys) s) : Wp (compM T f en (.it xs w) st) Q := by
  subst hx
  rw [compM_it, wp_bnd]
  exact wp_compgo g as I step as [] [] st rfl h0 fun zs s h => by
    rw [List.nil_append] at h
    exact done zs s h
/-- a comprehension that changes nothing -/
theorem wp_comp {T : Tg} {f : En → M (Option D)} {w : List Nat} {xs : List D} (g : α → D) (h : α → Option D) {Q : R → Store → Prop} (as : List α) (hx : xs = as.map g) (hw : watchOk w st st = true)
    (step : ∀ x ∈ as, Wp (turnF T f (g x) en st) (fun o s => o = h x ∧ s = st)) (done : Q (.fr (as.filterMap h)) st) : Wp (compM T f en (.it xs w) st) Q := by
  refine wp_compI g as (fun p ys s => ys = p.filterMap h ∧ s = st) hx ⟨rfl, rfl⟩ (fun p x r ys s ha hI => ?_) (fun ys s hI => ?_)
  · obtain ⟨rfl, rfl⟩ := hI
    refine wp_mono (step x (by rw [ha]; simp)) fun o s' ⟨e1, e2⟩ => ?_
    subst e1; subst e2
    refine ⟨hw, ?_, rfl⟩
    rw [List.filterMap_append]
    congr 1
  · obtain ⟨rfl, rfl⟩ := hI
    exact done
/-- the same where each item gives a value -/
theorem wp_compm {T : Tg} {f : En → M (Option D)} {w : List Nat} {xs : List D} (g : α → D) (h : α → D) {Q : R → Store → Prop} (as : List α) (hx : xs = as.map g) (hw : watchOk w st st = true)
    (step : ∀ x ∈ as, Wp (turnF T f (g x) en st) (fun o s => o = some (h x) ∧ s = st)) (done : Q (.fr (as.map h)) st) : Wp (compM T f en (.it xs w) st) Q := by
  refine wp_comp g (fun x => some (h x)) as hx hw step ?_
  rw [List.filterMap_eq_map']; exact done
/-! ### while -/
theorem ex_whl {c : E} {b : S} : ex C (.whl c b) en = whlGo (tev C c) (ex C b) C.W en := rfl
theorem wp_whlgo {t : En → M Bool} {f : En → M Fl} {Q : Fl → Store → Prop} (I : Nat → En → Store → Prop)
    (step : ∀ n en st, I n en st → Wp (t en st) (fun b s => (b = true → Wp (f en s) (TurnQ [] s (fun e s' => ∃ m, m < n ∧ I m e s') Q)) ∧ (b = false → Q (.nx en) s)))
    : ∀ k n en st, n < k → I n en st → Wp (whlGo t f k en st) Q
  | 0, _, _, _, h, _ => absurd h (Nat.not_lt_zero _)
  | k + 1, n, en, st, hk, h => by
    show Wp (bnd (t en) (fun b => if b = true then bnd (f en) fun fl => match fl with
      | .nx e | .ct e => whlGo t f k e
      | .bk e => rtn (.nx e)
      | .rt d => rtn (.rt d)
    else rtn (.nx en)) st) Q
    rw [wp_bnd0]
    refine wp_mono (step n en st h) fun b s hb => ?_
    cases b with
    | false => exact hb.2 rfl
    | true =>
      rw [if_pos rfl, wp_bnd0]
      refine wp_mono (hb.1 rfl) fun fl s2 hf => ?_
      cases fl with
      | nx e =>
        obtain ⟨_, m, hm, hI⟩ := hf
        exact wp_whlgo I step k m e s2 (by omega) hI
      | ct e =>
        obtain ⟨_, m, hm, hI⟩ := hf
        exact wp_whlgo I step k m e s2 (by omega) hI
      | bk e => exact hf
      | rt d => exact hf
/-- a while: ms are the slots that it changes, n falls -/
theorem wp_while {c : E} {b : S} {Q : Fl → Store → Prop} (ms : List Nat) (vs0 : List (Option D)) (n0 : Nat) (I : Nat → List (Option D) → Store → Prop) (hn : n0 < C.W) (hv : en = setMany en ms vs0) (h0 : I n0 vs0 st)
    (step : ∀ n vs s, I n vs s → Wp (tev C c (setMany en ms vs) s) (fun k s => (k = true → Wp (ex C b (setMany en ms vs) s) (TurnQ [] s (fun e s' => ∃ m, m < n ∧ ∃ vs', e = setMany en ms vs' ∧ I m vs' s') Q)) ∧ (k = false → Q (.nx (setMany en ms vs)) s))) :
    Wp (ex C (.whl c b) en st) Q := by
  rw [ex_whl]
  refine wp_whlgo (fun n e s => ∃ vs, e = setMany en ms vs ∧ I n vs s) (fun n e s ⟨vs, he, hI⟩ => ?_) C.W n0 en st hn ⟨vs0, hv, h0⟩
  subst he
  exact step n vs s hI
theorem tev_is {c : E} : tev C c en = bndT (ev C c en) fun x => truM x.val := rfl
/-! ### calls -/
/-! no place of a cell -/
mutual
def D.bare : D → Bool
  | .non | .bl _ | .int _ | .str _ => true
  | .tup xs | .lst xs | .scr xs | .dct _ xs | .ins _ _ xs => bareL xs
  | .loc _ => false
def bareL : List D → Bool
  | [] => true
  | a :: as => D.bare a && bareL as
end
mutual
theorem low_bare {n : Nat} : ∀ {d : D}, d.bare = true → d.low n = true
  | .non, _ => by rw [D.low]
  | .bl _, _ => by rw [D.low]
  | .int _, _ => by rw [D.low]
  | .str _, _ => by rw [D.low]
  | .tup xs, h => by rw [D.bare] at h; rw [D.low]; exact lowL_bare h
  | .lst xs, h => by rw [D.bare] at h; rw [D.low]; exact lowL_bare h
  | .scr xs, h => by rw [D.bare] at h; rw [D.low]; exact lowL_bare h
  | .dct _ xs, h => by rw [D.bare] at h; rw [D.low]; exact lowL_bare h
  | .ins _ _ xs, h => by rw [D.bare] at h; rw [D.low]; exact lowL_bare h
  | .loc _, h => by rw [D.bare] at h; cases h
theorem lowL_bare {n : Nat} : ∀ {l : List D}, bareL l = true → lowL n l = true
  | [], _ => by rw [lowL]
  | a :: l, h => by
    rw [bareL, Bool.and_eq_true] at h
    rw [lowL, low_bare h.1, lowL_bare h.2]; rfl
end
theorem bareL_all {l : List D} (h : ∀ d ∈ l, d.bare = true) : bareL l = true := by
  induction l with
  | nil => rw [bareL]
  | cons a l ih => rw [bareL, h a (List.mem_cons_self ..), ih fun d hd => h d (List.mem_cons_of_mem _ hd)]; rfl
theorem bare_ints (ns : List Int) : bareL (ns.map D.int) = true := bareL_all fun d hd => by
  obtain ⟨i, _, rfl⟩ := List.mem_map.mp hd
  rw [D.bare]
theorem bare_bls (ns : List Bool) : bareL (ns.map D.bl) = true := bareL_all fun d hd => by
  obtain ⟨i, _, rfl⟩ := List.mem_map.mp hd
  rw [D.bare]
theorem bare_tup {l : List D} : D.bare (.tup l) = bareL l := by rw [D.bare]
theorem bare_lst {l : List D} : D.bare (.lst l) = bareL l := by rw [D.bare]
theorem bare_int {i : Int} : D.bare (.int i) = true := by rw [D.bare]
theorem bare_bl {i : Bool} : D.bare (.bl i) = true := by rw [D.bare]
theorem bare_str {i : Str} : D.bare (.str i) = true := by rw [D.bare]
theorem bare_non : D.bare .non = true := by rw [D.bare]
theorem bareL_nil : bareL [] = true := by rw [bareL]
theorem bareL_cons {a : D} {l : List D} : bareL (a :: l) = (D.bare a && bareL l) := by rw [bareL]
/-- what is wanted of a def's end -/
def CallQ (keep : Bool) (st : Store) (Q : D → Store → Prop) (fl : Fl) (s : Store) : Prop := match fl with
  | .rt d => Wp (endCall keep st d s) Q
  | .nx _ => Wp (endCall keep st .non s) Q
  | _ => False
theorem callQ_rt {keep : Bool} {Q : D → Store → Prop} {d : D} : CallQ keep st Q (.rt d) s = Wp (endCall keep st d s) Q := rfl
theorem callQ_nx {keep : Bool} {Q : D → Store → Prop} {e : En} : CallQ keep st Q (.nx e) s = Wp (endCall keep st .non s) Q := rfl
theorem wp_call {fns : List Fn} {f k : Nat} {fn : Fn} {ds : List D} {Q : D → Store → Prop} (hf : fns[f]? = some fn) (hl : ds.length = fn.np)
    (h : Wp (ex { call := callF fns k } fn.body (entry fn ds) st) (CallQ fn.keep st Q)) : Wp (callF fns (k + 1) f ds st) Q := by
  rw [call_at hf hl]
  cases e : ex { call := callF fns k } fn.body (entry fn ds) st with
  | ok fl s =>
    rw [e] at h
    cases fl with
    | rt d => exact h
    | nx en => exact h
    | bk en => exact h.elim
    | ct en => exact h.elim
  | exc _ _ _ => rw [e] at h; exact h.elim
  | bad => rw [e] at h; exact h.elim
theorem end_same {keep : Bool} {d : D} : endCall keep st d st = .ok d st := by
  unfold endCall
  rw [if_pos (by simp)]
theorem end_keep {d : D} : endCall true st d s = .ok d s := by
  unfold endCall
  rw [if_pos (by simp)]
theorem end_bare {d : D} (hd : d.bare = true) (ho : oldOk st.length st s = true) : endCall false st d s = .ok d (s.take st.length) := by
  unfold endCall
  by_cases e : (false || s.length == st.length) = true
  · rw [if_pos e]
    have : s.length = st.length := by simpa using e
    rw [← this, List.take_length]
  · rw [if_neg e]
    have hl : D.low st.length d = true := low_bare hd
    cases d with
    | loc m => rw [D.bare] at hd; cases hd
    | _ => simp only [hl, ho, Bool.and_self, if_true]
/-- own cells go -/
theorem end_own {d : D} {r : Store} (hd : d.bare = true) : endCall false st d (st ++ r) = .ok d st := by
  rw [end_bare hd (oldOk_refl _ _ _), List.take_left]
/-- a list of its own that is handed back -/
theorem end_lst {xs : List D} {r : Store} (hd : bareL xs = true) : endCall false st (.loc st.length) (st ++ .lst xs :: r) = .ok (.lst xs) st := by
  unfold endCall
  rw [if_neg (by simp)]
  have h1 : (st ++ Cell.lst xs :: r)[st.length]? = some (.lst xs) := by simp
  have h2 : D.low st.length (.lst xs) = true := low_bare (by rw [D.bare]; exact hd)
  simp only [Nat.lt_irrefl, if_false, h1, h2, oldOk_refl, Bool.and_self, if_true, List.take_left]
/-! ### stores that grew -/
theorem app_get {r : Store} {i : Nat} : (st ++ r)[st.length + i]? = r[i]? := by
  rw [List.getElem?_append_right (by omega)]
  congr 1; omega
theorem app_get0 {r : Store} : (st ++ r)[st.length]? = r[0]? := app_get (i := 0)
theorem app_set {r : Store} {i : Nat} {c : Cell} : (st ++ r).set (st.length + i) c = st ++ r.set i c := by
  rw [List.set_append_right _ _ (by omega)]
  congr 2; omega
theorem app_set0 {r : Store} {c : Cell} : (st ++ r).set st.length c = st ++ r.set 0 c := app_set (i := 0)
end
theorem bits10 : Builtin.Int.intBits 10 = 4 := by decide +kernel
/-! ### the deck -/
structure Dk where
  cs : List Int
  m : Int
  t : Int
def Dk.ok (d : Dk) (n : Int) : Prop := d.cs.length ≤ 63 ∧ 0 ≤ d.t ∧ d.t ≤ n
theorem Dk.ok.mono {d : Dk} {n n' : Int} (h : d.ok n) (hn : n ≤ n') : d.ok n' := ⟨h.1, h.2.1, Int.le_trans h.2.2 hn⟩
def dkS (d : Dk) (rest : Store) : Store := deckSt d.cs d.m d.t rest
section
variable {α : Type} {d d' : Dk} {r : Store} {x y : Cell} {n : Int}
theorem dk_len : (dkS d r).length = r.length + 2 := rfl
theorem dk_app {z : Store} : dkS d r ++ z = dkS d (r ++ z) := rfl
theorem dk_get2 : (dkS d (x :: r))[2]? = some x := rfl
theorem dk_get3 {x2 : Cell} : (dkS d (x2 :: x :: r))[3]? = some x := rfl
theorem dk_get4 {x2 x3 : Cell} : (dkS d (x2 :: x3 :: x :: r))[4]? = some x := rfl
theorem dk_get5 {x2 x3 x4 : Cell} : (dkS d (x2 :: x3 :: x4 :: x :: r))[5]? = some x := rfl
theorem dk_set2 : (dkS d (x :: r)).set 2 y = dkS d (y :: r) := rfl
theorem dk_set3 {x2 : Cell} : (dkS d (x2 :: x :: r)).set 3 y = dkS d (x2 :: y :: r) := rfl
theorem dk_set4 {x2 x3 : Cell} : (dkS d (x2 :: x3 :: x :: r)).set 4 y = dkS d (x2 :: x3 :: y :: r) := rfl
theorem dk_set5 {x2 x3 x4 : Cell} : (dkS d (x2 :: x3 :: x4 :: x :: r)).set 5 y = dkS d (x2 :: x3 :: x4 :: y :: r) := rfl
theorem oldOk_same (n : Nat) : ∀ s t : Store, oldOk n s (s ++ t) = true := oldOk_refl n
theorem low_ints' (k : Nat) (ns : List Int) : lowL k (ns.map D.int) = true := lowL_bare (bare_ints ns)
theorem dk_old {z : Store} : oldOk (dkS d r).length (dkS d r) (dkS d' (r ++ z)) = true := by
  have q1 : Cell.low (r.length + 2) (.lst (d'.cs.map D.int)) = true := low_ints' _ d'.cs
  have q2 : Cell.low (r.length + 2) (.dct dk [.loc 0, .int d'.m, .int d'.t]) = true := by
    show lowL (r.length + 2) [.loc 0, .int d'.m, .int d'.t] = true
    simp [lowL, D.low]
  rw [dk_len]
  show ((Cell.beq _ _ || Cell.low (r.length + 2) (.lst (d'.cs.map D.int))) && ((Cell.beq _ _ || Cell.low (r.length + 2) (.dct dk [.loc 0, .int d'.m, .int d'.t])) && oldOk (r.length + 2) r (r ++ z))) = true
  rw [q1, q2, oldOk_refl]; simp
theorem end_dk {v : D} {z : Store} (hd : v.bare = true) : endCall false (dkS d r) v (dkS d' (r ++ z)) = .ok v (dkS d' r) := by
  rw [end_bare hd dk_old, dk_len]
  congr 1
  show (_ :: _ :: (r ++ z)).take (r.length + 2) = _ :: _ :: r
  simp
theorem end_dk0 {v : D} (hd : v.bare = true) : endCall false (dkS d r) v (dkS d' r) = .ok v (dkS d' r) := by
  have := end_dk (d := d) (d' := d') (r := r) (z := []) hd
  rw [List.append_nil] at this
  exact this
theorem end_dk1 {v : D} {z : Store} (hd : v.bare = true) : endCall false (dkS d []) v (dkS d' z) = .ok v (dkS d' []) := end_dk (r := []) hd
theorem wp_draw {fns : List Fn} {f : Nat} {p q : Int} (hf : fns[f]? = some (drawF p q)) (hp : -(2 ^ 64) < p ∧ p < 2 ^ 64) {k : Nat} {b : Int} {Q : D → Store → Prop} (hd : d.ok n) (hn : n < 2 ^ 59) (hb : 0 < b ∧ b < 2 ^ 31)
    (h : ∀ (j : Nat) (d' : Dk), (j : Int) < b → d'.ok (n + 1) → Q (.int j) (dkS d' r)) : Wp (callF fns (k + 1) f [.loc 1, .int b] (dkS d r)) Q := by
  obtain ⟨j, st', e, j0, jl, cs, m, t, rfl, h1, h2, h3⟩ := draw_ok hf hp k (st := dkS d r) (rest := r) ⟨d.cs, d.m, d.t, rfl, hd⟩ hn hb.1 hb.2
  refine wp_of e ?_
  have hj : (j.toNat : Int) = j := Int.toNat_of_nonneg j0
  have := h j.toNat ⟨cs, m, t⟩ (by rw [hj]; exact jl) ⟨h1, h2, h3⟩
  rw [hj] at this
  exact this
theorem wp_pick {fns : List Fn} {f fd : Nat} {p q : Int} (hf : fns[f]? = some (pickF fd)) (hd : fns[fd]? = some (drawF p q)) (hp : -(2 ^ 64) < p ∧ p < 2 ^ 64) {k : Nat} {v : D} {xs : List D} {Q : D → Store → Prop} (D0 : d.ok n) (hn : n < 2 ^ 59)
    (hv : v = .lst xs ∨ v = .tup xs) (h0 : 0 < xs.length ∧ xs.length ≤ 1000000) (h : ∀ x d', x ∈ xs → Dk.ok d' (n + 1) → Q x (dkS d' r)) : Wp (callF fns (k + 2) f [.loc 1, v] (dkS d r)) Q := by
  obtain ⟨x, st', hx, e, cs, m, t, rfl, h1, h2, h3⟩ := pick_ok hf hd hp k (st := dkS d r) (rest := r) ⟨d.cs, d.m, d.t, rfl, D0⟩ hn hv h0.1 h0.2
  exact wp_of e (h x ⟨cs, m, t⟩ hx ⟨h1, h2, h3⟩)
theorem wp_deck {fns : List Fn} {f : Nat} {c1 c2 : Int} (hf : fns[f]? = some (deckF c1 c2)) {k : Nat} {ns : List Int} (hl : ns.length ≤ 63) {Q : D → Store → Prop} (h : ∀ d, Dk.ok d 0 → Q (.loc 1) (dkS d [])) : Wp (callF fns (k + 1) f [.scr (ns.map D.int)] []) Q := by
  obtain ⟨st', e, cs, m, t, rfl, h1, h2, h3⟩ := deck_ok hf k ns hl
  exact wp_of e (h ⟨cs, m, t⟩ ⟨h1, h2, h3⟩)
end
end PD

/-! Shown data. -/
namespace PD
open PySem PySem.Spec PyProof.Rows L2
theorem strOk_app {a b : Str} (ha : PyData.strOk a = true) (hb : PyData.strOk b = true) : PyData.strOk (a ++ b) = true := by
  unfold PyData.strOk at *
  rw [Str.cps_append, Array.all_append, ha, hb]; rfl
theorem strOk_of (s : String) : PyData.strOk (Str.ofString s) = true := by
  unfold PyData.strOk
  rw [Str.ofString_eq_toList]
  simp only [List.all_toArray, List.all_map, List.all_eq_true, Function.comp]
  intro c _
  have := c.valid
  exact decide_eq_true (by
    show c.val.toNat < _
    rcases this with h | h <;> omega)
theorem strOk_lit (s : String) : PyData.strOk (s : Str) = true := strOk_of s
theorem strOk_join : ∀ ts : List Str, (∀ t ∈ ts, PyData.strOk t = true) → PyData.strOk (Str.join ", " ts) = true
  | [], _ => by decide +kernel
  | [x], h => h x (List.mem_cons_self ..)
  | x :: y :: r, h => by
    show PyData.strOk (x ++ ", " ++ Str.join ", " (y :: r)) = true
    exact strOk_app (strOk_app (h x (List.mem_cons_self ..)) (strOk_of _)) (strOk_join (y :: r) fun t ht => h t (List.mem_cons_of_mem _ ht))
theorem strOk_from : ∀ (ts : List Str) (k : Nat) (acc : Str), PyData.strOk acc = true → (∀ t ∈ ts, PyData.strOk t = true) → PyData.strOk (textFrom k acc ts) = true
  | [], _, _, ha, _ => ha
  | t :: ts, k, acc, ha, h => by
    show PyData.strOk (textFrom (k + 1) (acc ++ (if k > 0 then ", " else "" : String) ++ t) ts) = true
    exact strOk_from ts (k + 1) _ (strOk_app (strOk_app ha (strOk_of _)) (h t (List.mem_cons_self ..))) fun u hu => h u (List.mem_cons_of_mem _ hu)
/-- how a datum is shown: at most d deep, in at most n signs -/
structure Shw (d n : Nat) (p : PyData) : Prop where
  ok : p.showable = true
  lay : p.canLay0 = true
  dep : p.depth ≤ d
  len : p.shown.length ≤ n
  str : PyData.strOk p.shown = true
theorem Shw.mono {d n d' n' : Nat} {p : PyData} (h : Shw d n p) (hd : d ≤ d') (hn : n ≤ n') : Shw d' n' p := ⟨h.ok, h.lay, Nat.le_trans h.dep hd, Nat.le_trans h.len hn, h.str⟩
theorem shw_int {i : Int} {k : Nat} (h : i.natAbs < 2 ^ k) (hk : 0 < k ∧ k ≤ 1919) : Shw 0 (k + 1) (.int i) := by
  have hl : i.natAbs.log2 < k := by
    by_cases h0 : i.natAbs = 0
    · rw [h0]; exact hk.1
    · exact (Nat.log2_lt h0).mpr h
  refine ⟨?_, by simp [PyData.canLay0], by simp [PyData.depth], ?_, ?_⟩
  · simp only [PyData.showable]
    exact decide_eq_true (by omega)
  · simp only [PyData.shown]
    show (Str.ofString (toString i)).length ≤ _
    rw [PySem.ofString_length]
    exact int_text_length_le hk.1 hl
  · simp only [PyData.shown]; exact strOk_of _
theorem shw_bool (b : Bool) : Shw 0 5 (.bool b) := by
  refine ⟨by simp [PyData.showable], by simp [PyData.canLay0], by simp [PyData.depth], ?_, ?_⟩
  · simp only [PyData.shown]
    cases b <;> decide +kernel
  · simp only [PyData.shown]; cases b <;> exact strOk_of _
theorem shw_none : Shw 0 5 .none := by
  refine ⟨by simp [PyData.showable], by simp [PyData.canLay0], by simp [PyData.depth], ?_, ?_⟩
  · simp only [PyData.shown]; decide +kernel
  · simp only [PyData.shown]; exact strOk_of _
theorem piled_le {n : Nat} : ∀ (xs : List PyData), (∀ x ∈ xs, x.shown.length ≤ n) → piled (PyData.shownAll xs) ≤ xs.length * (n + 2)
  | [], _ => by simp [PyData.shownAll, piled]
  | x :: xs, h => by
    have ih := piled_le xs fun y hy => h y (List.mem_cons_of_mem _ hy)
    have h1 := h x (List.mem_cons_self ..)
    rw [PyData.shownAll, piled_cons, List.length_cons, Nat.add_mul]
    omega
theorem shownAll_mem {t : Str} : ∀ {xs : List PyData}, t ∈ PyData.shownAll xs → ∃ x ∈ xs, t = x.shown
  | [], h => by simp [PyData.shownAll] at h
  | x :: xs, h => by
    rw [PyData.shownAll, List.mem_cons] at h
    rcases h with h | h
    · exact ⟨x, List.mem_cons_self .., h⟩
    · obtain ⟨y, hy, e⟩ := shownAll_mem h
      exact ⟨y, List.mem_cons_of_mem _ hy, e⟩
theorem shw_all {d n : Nat} : ∀ {xs : List PyData}, (∀ x ∈ xs, Shw d n x) → PyData.showableAll xs = true ∧ PyData.canLayAll0 xs = true ∧ PyData.depthAll xs ≤ d
  | [], _ => by simp [PyData.showableAll, PyData.canLayAll0, PyData.depthAll]
  | x :: xs, h => by
    obtain ⟨h1, h2, h3⟩ := shw_all fun y hy => h y (List.mem_cons_of_mem _ hy)
    have hx := h x (List.mem_cons_self ..)
    refine ⟨?_, ?_, ?_⟩
    · rw [PyData.showableAll, hx.ok, h1]; rfl
    · rw [PyData.canLayAll0, hx.lay, h2]; rfl
    · rw [PyData.depthAll]; exact Nat.max_le.mpr ⟨hx.dep, h3⟩
theorem tuple_len (ts : List Str) : (tupleText ts).length ≤ piled ts + 3 := by
  unfold tupleText
  have e3 : (((if ts.length == 1 then ",)" else ")" : String) : Str)).length ≤ 2 := by split <;> decide
  have e1 : ((("(" : String) : Str)).length = 1 := rfl
  rw [strLen_append, strLen_append, e1]
  cases ts with
  | nil =>
    have : (Str.join ", " []).length = 0 := by decide +kernel
    omega
  | cons t ts =>
    have := join_length_add (t :: ts) (by simp)
    omega
theorem list_len : ∀ ts : List Str, (listText ts).length ≤ piled ts + 2
  | [] => by
    have : (listText []).length = 2 := by decide +kernel
    omega
  | t :: r => by
    have h := textFrom_length_pos r 1 (("[" : Str) ++ (if (0 : Nat) > 0 then ", " else "" : String) ++ t) (Nat.succ_pos 0)
    have e : ((("[" : Str) ++ (if (0 : Nat) > 0 then ", " else "" : String) ++ t)).length = 1 + t.length := by
      rw [strLen_append, strLen_append]; rfl
    have hX : (listText (t :: r)).length = (textFrom 1 (("[" : Str) ++ (if (0 : Nat) > 0 then ", " else "" : String) ++ t) r).length + 1 := by
      show (textFrom 0 "[" (t :: r) ++ "]").length = _
      rw [strLen_append]; rfl
    rw [hX, h, e, piled_cons]; omega
theorem shw_tuple {d n : Nat} {xs : List PyData} (h : ∀ x ∈ xs, Shw d n x) (L : Nat) (hl : xs.length ≤ L) : Shw (d + 1) (L * (n + 2) + 3) (.tuple xs) := by
  obtain ⟨h1, h2, h3⟩ := shw_all h
  have h4 := piled_le xs fun x hx => (h x hx).len
  have h5 := tuple_len (PyData.shownAll xs)
  have h6 : xs.length * (n + 2) ≤ L * (n + 2) := Nat.mul_le_mul_right _ hl
  refine ⟨by simp only [PyData.showable]; exact h1, by simp only [PyData.canLay0]; exact h2, by simp only [PyData.depth]; omega, by simp only [PyData.shown]; omega, ?_⟩
  simp only [PyData.shown]
  unfold tupleText
  exact strOk_app (strOk_app (strOk_of _) (strOk_join _ fun t ht => by obtain ⟨x, hx, e⟩ := shownAll_mem ht; rw [e]; exact (h x hx).str)) (strOk_of _)
theorem shw_list {d n : Nat} {xs : List PyData} (h : ∀ x ∈ xs, Shw d n x) (L : Nat) (hl : xs.length ≤ L) : Shw (d + 1) (L * (n + 2) + 3) (.list xs) := by
  obtain ⟨h1, h2, h3⟩ := shw_all h
  have h4 := piled_le xs fun x hx => (h x hx).len
  have h5 := list_len (PyData.shownAll xs)
  have h6 : xs.length * (n + 2) ≤ L * (n + 2) := Nat.mul_le_mul_right _ hl
  refine ⟨by simp only [PyData.showable]; exact h1, by simp only [PyData.canLay0]; exact h2, by simp only [PyData.depth]; omega, by simp only [PyData.shown]; omega, ?_⟩
  simp only [PyData.shown]
  unfold listText
  exact strOk_app (strOk_from _ _ _ (strOk_of _) fun t ht => by obtain ⟨x, hx, e⟩ := shownAll_mem ht; rw [e]; exact (h x hx).str) (strOk_of _)
theorem Shw.shaped {d n : Nat} {p : PyData} (h : Shw d n p) (hd : d ≤ 60) : SeqAt.shaped p = true := by
  unfold SeqAt.shaped
  rw [h.lay, Bool.true_and]
  exact decide_eq_true (Nat.le_trans h.dep (by omega))
/-- a value and how it is shown -/
structure Dat (d n : Nat) (x : D) (p : PyData) : Prop where
  py : D.py x = some p
  sh : Shw d n p
  nl : ∀ m, x ≠ .loc m
theorem Dat.pyS {d n : Nat} {x : D} {p : PyData} (h : Dat d n x p) (st : Store) : pyS st x = some p := by
  have := h.py
  cases x with
  | loc m => exact absurd rfl (h.nl m)
  | _ => exact this
theorem Dat.mono {d n d' n' : Nat} {x : D} {p : PyData} (h : Dat d n x p) (hd : d ≤ d') (hn : n ≤ n') : Dat d' n' x p := ⟨h.py, h.sh.mono hd hn, h.nl⟩
theorem dat_int {i : Int} {k : Nat} (h : i.natAbs < 2 ^ k) (hk : 0 < k ∧ k ≤ 1919) : Dat 0 (k + 1) (.int i) (.int i) := ⟨by rw [D.py], shw_int h hk, fun _ h => by cases h⟩
theorem dat_bl (b : Bool) : Dat 0 5 (.bl b) (.bool b) := ⟨by rw [D.py], shw_bool b, fun _ h => by cases h⟩
theorem dat_non : Dat 0 5 .non .none := ⟨by rw [D.py], shw_none, fun _ h => by cases h⟩
/-- the data of a list of values -/
inductive Dats (d n : Nat) : List D → List PyData → Prop
  | nil : Dats d n [] []
  | cons {x : D} {p : PyData} {xs : List D} {ps : List PyData} : Dat d n x p → Dats d n xs ps → Dats d n (x :: xs) (p :: ps)
theorem Dats.py {d n : Nat} : ∀ {xs : List D} {ps : List PyData}, Dats d n xs ps → pyL xs = some ps ∧ (∀ p ∈ ps, Shw d n p) ∧ ps.length = xs.length
  | _, _, .nil => ⟨by rw [pyL], fun _ h => absurd h List.not_mem_nil, rfl⟩
  | _, _, .cons h t => by
    obtain ⟨h1, h2, h3⟩ := t.py
    refine ⟨by rw [pyL, h.py, h1], fun p hp => ?_, by rw [List.length_cons, List.length_cons, h3]⟩
    rcases List.mem_cons.mp hp with rfl | hp
    · exact h.sh
    · exact h2 p hp
theorem dat_tup {d n : Nat} {xs : List D} {ps : List PyData} (h : Dats d n xs ps) (L : Nat) (hl : xs.length ≤ L) : Dat (d + 1) (L * (n + 2) + 3) (.tup xs) (.tuple ps) := by
  obtain ⟨h1, h2, h3⟩ := h.py
  exact ⟨by rw [D.py, h1]; rfl, shw_tuple h2 L (by omega), fun _ h => by cases h⟩
theorem dat_lst {d n : Nat} {xs : List D} {ps : List PyData} (h : Dats d n xs ps) (L : Nat) (hl : xs.length ≤ L) : Dat (d + 1) (L * (n + 2) + 3) (.lst xs) (.list ps) := by
  obtain ⟨h1, h2, h3⟩ := h.py
  exact ⟨by rw [D.py, h1]; rfl, shw_list h2 L (by omega), fun _ h => by cases h⟩
theorem dats_rep {d n : Nat} {x : D} {p : PyData} (h : Dat d n x p) : ∀ k, Dats d n (List.replicate k x) (List.replicate k p)
  | 0 => .nil
  | k + 1 => .cons h (dats_rep h k)
/-- all numbers are below 2 ^ k -/
def Bd (k : Nat) (ns : List Int) : Prop := ∀ i ∈ ns, i.natAbs < 2 ^ k
theorem dats_ints {k : Nat} {ns : List Int} (h : Bd k ns) (hk : 0 < k ∧ k ≤ 1919) : Dats 0 (k + 1) (ns.map D.int) (ns.map PyData.int) := by
  induction ns with
  | nil => exact .nil
  | cons i ns ih => exact .cons (dat_int (h i (List.mem_cons_self ..)) hk) (ih fun j hj => h j (List.mem_cons_of_mem _ hj))
theorem dat_tI {k : Nat} {ns : List Int} (h : Bd k ns) (hk : 0 < k ∧ k ≤ 1919) (L : Nat) (hl : ns.length ≤ L) : Dat 1 (L * (k + 3) + 3) (.tup (ns.map D.int)) (.tuple (ns.map PyData.int)) :=
  dat_tup (dats_ints h hk) L (by rw [List.length_map]; exact hl)
theorem dat_lI {k : Nat} {ns : List Int} (h : Bd k ns) (hk : 0 < k ∧ k ≤ 1919) (L : Nat) (hl : ns.length ≤ L) : Dat 1 (L * (k + 3) + 3) (.lst (ns.map D.int)) (.list (ns.map PyData.int)) :=
  dat_lst (dats_ints h hk) L (by rw [List.length_map]; exact hl)
theorem repr_dat {d n : Nat} {x : D} {p : PyData} (h : Dat d n x p) (hd : d ≤ 60 ∧ n ≤ 1000000) : biM .repr [x] = rtn (.d (.str p.shown)) := by
  funext st
  show (match PD.pyS st x with
    | some p => if (p.showable && decide (p.shown.length ≤ 1000000) && SeqAt.shaped p) = true then Out.ok (R.d (.str p.shown)) st else Out.bad
    | none => Out.bad) = _
  rw [h.pyS]
  show (if _ then _ else _) = _
  rw [if_pos]
  · rfl
  · rw [h.sh.ok, h.sh.shaped hd.1, decide_eq_true (Nat.le_trans h.sh.len hd.2)]; rfl
theorem eq_shown {d n e m : Nat} {p q : PyData} (h : Shw d n p) (h2 : Shw e m q) : cmpM .eq (.str p.shown) (.str q.shown) = rtn (p.shown == q.shown) := eq_str h.str h2.str
theorem eq_dat {d n : Nat} {p : PyData} (h : Shw d n p) : cmpM .eq (.str p.shown) (.str p.shown) = rtn true := by
  rw [eq_shown h h]
  simp
theorem ne_dat {d n : Nat} {p : PyData} (h : Shw d n p) : cmpM .ne (.str p.shown) (.str p.shown) = rtn false := by
  funext st
  have e : SeqAt.shaped (.str p.shown) = true := by simp [SeqAt.shaped, PyData.canLay0, PyData.depth, h.str]
  rw [cmp_ne_of (p := .str p.shown) (q := .str p.shown) (by simp [PD.pyS, D.py]) (by simp [PD.pyS, D.py]) e e]
  simp [PyData.eqv, rtn]
section
variable {α : Type} {st : Store} {n m : Nat} {xs ys : List D} {i : Int}
theorem add_loc_lst : binM .add (.loc n) (.lst ys) st = (cellM st[n]? (fun xs => selM (lim (xs.length + ys.length)) (rtn (.fr (xs ++ ys))) badM)) st := by
  show (match (match st[n]? with
    | some (.lst xs) => some xs
    | _ => none), some ys with
    | some a, some b => if lim (a.length + b.length) = true then Out.ok (R.fr (a ++ b)) st else Out.bad
    | _, _ => Out.bad) = _
  unfold cellM
  cases st[n]? with
  | none => rfl
  | some c => cases c <;> rfl
theorem add_lst_loc : binM .add (.lst xs) (.loc n) st = (cellM st[n]? (fun ys => selM (lim (xs.length + ys.length)) (rtn (.fr (xs ++ ys))) badM)) st := by
  show (match some xs, (match st[n]? with
    | some (.lst xs) => some xs
    | _ => none) with
    | some a, some b => if lim (a.length + b.length) = true then Out.ok (R.fr (a ++ b)) st else Out.bad
    | _, _ => Out.bad) = _
  unfold cellM
  cases st[n]? with
  | none => rfl
  | some c => cases c <;> rfl
theorem rev_loc : revM (.loc n) st = (cellM st[n]? (fun xs => rtn (.fr xs.reverse))) st := by
  show (match (match st[n]? with
    | some (.lst xs) => some xs
    | _ => none) with
    | some xs => Out.ok (R.fr xs.reverse) st
    | none => Out.bad) = _
  unfold cellM
  cases st[n]? with
  | none => rfl
  | some c => cases c <;> rfl
theorem list_loc : biM .list [.loc n] st = (cellM st[n]? (fun xs => rtn (.fr xs))) st := by
  show (match (match st[n]? with
    | some (.lst xs) => some xs
    | _ => none) with
    | some xs => Out.ok (R.fr xs) st
    | none => Out.bad) = _
  unfold cellM
  cases st[n]? with
  | none => rfl
  | some c => cases c <;> rfl
theorem tru_loc : truM (.loc n) st = (cellM st[n]? (fun xs => rtn (!xs.isEmpty))) st := by
  show (match (match st[n]? with
    | some (.lst xs) => some (!xs.isEmpty)
    | _ => none) with
    | some b => Out.ok b st
    | none => Out.bad) = _
  unfold cellM
  cases st[n]? with
  | none => rfl
  | some c => cases c <;> rfl
theorem itv_loc : itvM (.loc n) st = (cellM st[n]? (fun xs => selM (lim xs.length) (rtn (.it xs [n])) badM)) st := by
  show (match (match st[n]? with
    | some (.lst xs) => some xs
    | _ => none) with
    | some xs => if lim xs.length = true then Out.ok (R.it xs [n]) st else Out.bad
    | none => Out.bad) = _
  unfold cellM
  cases st[n]? with
  | none => rfl
  | some c => cases c <;> rfl
theorem enu_loc {k : Int} : enuM k (.loc n) st = (cellM st[n]? (fun xs => selM (lim xs.length) (rtn (.it (enumL k xs) [n])) badM)) st := by
  show (match (match st[n]? with
    | some (.lst xs) => some xs
    | _ => none) with
    | some xs => if lim xs.length = true then Out.ok (R.it (enumL k xs) [n]) st else Out.bad
    | none => Out.bad) = _
  unfold cellM
  cases st[n]? with
  | none => rfl
  | some c => cases c <;> rfl
theorem sum_loc {ns : List Int} (h : st[n]? = some (.lst (ns.map D.int))) : biM .sum [.loc n] st = .ok (.d (.int ns.sum)) st := by
  simp [biM, seqOf, h, intsOf_map]
end
theorem perm_nil {xs : List D} : permuted xs [] = [] := rfl
theorem perm_cons {xs : List D} {i : Nat} {is : List Nat} : permuted xs (i :: is) = xs.getD i .non :: permuted xs is := rfl
section
variable {xs : List D} {a b c : D}
theorem ixN_0 {n : Nat} : ixN (n + 1) 0 = some 0 := by
  show L2.ixN (n + 1) 0 = some 0
  unfold L2.ixN
  rw [if_pos (by decide), if_pos (by omega)]; rfl
theorem ixN_1 {n : Nat} : ixN (n + 2) 1 = some 1 := by
  show L2.ixN (n + 2) 1 = some 1
  unfold L2.ixN
  rw [if_pos (by decide), if_pos (by omega)]; rfl
theorem ixN_2 {n : Nat} : ixN (n + 3) 2 = some 2 := by
  show L2.ixN (n + 3) 2 = some 2
  unfold L2.ixN
  rw [if_pos (by decide), if_pos (by omega)]; rfl
theorem ixN_m {n : Nat} : ixN (n + 1) (-1) = some n := by
  show L2.ixN (n + 1) (-1) = some n
  unfold L2.ixN
  rw [if_neg (by decide), if_pos (by omega)]
  congr 1; omega
theorem idx0_tup : idxM (.tup (a :: xs)) (.int 0) = rtn (.d a) := by rw [idxM_tup, List.length_cons, ixN_0]; rfl
theorem idx0_lst : idxM (.lst (a :: xs)) (.int 0) = rtn (.d a) := by rw [idxM_lst, List.length_cons, ixN_0]; rfl
theorem idx1_tup : idxM (.tup (a :: b :: xs)) (.int 1) = rtn (.d b) := by rw [idxM_tup, List.length_cons, List.length_cons, ixN_1]; rfl
theorem idx1_lst : idxM (.lst (a :: b :: xs)) (.int 1) = rtn (.d b) := by rw [idxM_lst, List.length_cons, List.length_cons, ixN_1]; rfl
theorem idx2_tup : idxM (.tup (a :: b :: c :: xs)) (.int 2) = rtn (.d c) := by rw [idxM_tup, List.length_cons, List.length_cons, List.length_cons, ixN_2]; rfl
theorem idx2_lst : idxM (.lst (a :: b :: c :: xs)) (.int 2) = rtn (.d c) := by rw [idxM_lst, List.length_cons, List.length_cons, List.length_cons, ixN_2]; rfl
theorem idxm_tup : idxM (.tup (xs ++ [a])) (.int (-1)) = rtn (.d a) := by
  rw [idxM_tup, List.length_append, List.length_singleton, ixN_m]
  simp only [Option.bind_some, List.getElem?_append_right (Nat.le_refl _), Nat.sub_self]; rfl
theorem idxm_lst : idxM (.lst (xs ++ [a])) (.int (-1)) = rtn (.d a) := by
  rw [idxM_lst, List.length_append, List.length_singleton, ixN_m]
  simp only [Option.bind_some, List.getElem?_append_right (Nat.le_refl _), Nat.sub_self]; rfl
end
theorem ne_lBc {b : Bool} {bs : List Bool} : cmpM .ne (.lst (.bl b :: bs.map D.bl)) (.lst []) = rtn true := ne_lB0 (b :: bs)
theorem ne_lBm {b : Bool} {bs : List Bool} : cmpM .ne (.lst (bs.map D.bl ++ [.bl b])) (.lst []) = rtn true := by
  have := ne_lB0 (bs ++ [b])
  rw [List.map_append] at this
  rw [show bs.map D.bl ++ [D.bl b] = bs.map D.bl ++ [b].map D.bl from rfl, this]
  simp
theorem ne_l00 : cmpM .ne (.lst []) (.lst []) = rtn false := ne_lI []  []
theorem eq_l00 : cmpM .eq (.lst []) (.lst []) = rtn true := eq_lI []  []
theorem ne_t00 : cmpM .ne (.tup []) (.tup []) = rtn false := ne_tI []  []
theorem eq_t00 : cmpM .eq (.tup []) (.tup []) = rtn true := eq_tI []  []
theorem eq_lIc {i : Int} {ns : List Int} : cmpM .eq (.lst (.int i :: ns.map D.int)) (.lst []) = rtn false := eq_lI (i :: ns) []
theorem ne_lIc {i : Int} {ns : List Int} : cmpM .ne (.lst (.int i :: ns.map D.int)) (.lst []) = rtn true := ne_lI (i :: ns) []
theorem eq_tIc {i : Int} {ns : List Int} : cmpM .eq (.tup (.int i :: ns.map D.int)) (.tup []) = rtn false := eq_tI (i :: ns) []
theorem ne_tIc {i : Int} {ns : List Int} : cmpM .ne (.tup (.int i :: ns.map D.int)) (.tup []) = rtn true := ne_tI (i :: ns) []
theorem eq_lN0 {l : List Nat} : cmpM .eq (.lst (l.map fun k : Nat => D.int (k : Int))) (.lst []) = rtn (decide (l = [])) := by
  rw [show (l.map fun k : Nat => D.int (k : Int)) = (l.map fun k : Nat => (k : Int)).map D.int by rw [List.map_map]; rfl, eq_lI0]
  simp
theorem ne_lN0 {l : List Nat} : cmpM .ne (.lst (l.map fun k : Nat => D.int (k : Int))) (.lst []) = rtn (!decide (l = [])) := by
  rw [show (l.map fun k : Nat => D.int (k : Int)) = (l.map fun k : Nat => (k : Int)).map D.int by rw [List.map_map]; rfl, ne_lI0]
  simp
theorem divOk_of {j : Int} (h : 0 < j ∧ j < 2 ^ 62) : divOk j = true := by
  unfold divOk
  rw [Bool.and_eq_true]
  refine ⟨decide_eq_true (by omega), decide_eq_true ?_⟩
  have : j.natAbs.log2 < 62 := (Nat.log2_lt (by omega)).mpr (by omega)
  omega
end PD

/-! The words of a walk, in one. -/
namespace PD
open PySem PySem.Spec PyProof.Rows L2
def Wa := And.intro @PD.bndT_rtn (@PD.wp_bnd)
def Wb0 := And.intro @PD.ev_var (And.intro @PD.ev_cst (And.intro @PD.ev_glo (And.intro @PD.ev_nil (And.intro @PD.ev_cons (And.intro @PD.ev_tup (And.intro @PD.ev_lst (And.intro @PD.ev_bin (And.intro @PD.ev_neg (And.intro @PD.ev_cmp (And.intro @PD.ev_chn (And.intro @PD.ev_and (And.intro @PD.ev_or (And.intro @PD.ev_one (And.intro @PD.ev_not (And.intro @PD.ev_ite (And.intro @PD.ev_idx (And.intro @PD.ev_slc (And.intro @PD.ev_rev (And.intro @PD.ev_call (And.intro @PD.ev_callk (And.intro @PD.ev_bi (And.intro @PD.ev_mth (And.intro @PD.ev_comp (And.intro @PD.ev_newl (And.intro @PD.ev_itv (And.intro @PD.ev_rng (And.intro @PD.ev_enu (And.intro @PD.ev_zip (And.intro @PD.ev_isi (And.intro @PD.ev_star (And.intro @PD.seqM_tup (And.intro @PD.seqM_lst (And.intro @PD.ex_skip (And.intro @PD.ex_seq (And.intro @PD.ex_set (And.intro @PD.ex_unp (And.intro @PD.ex_sti (And.intro @PD.ex_stk (@PD.ex_aug)))))))))))))))))))))))))))))))))))))))
def Wb1 := And.intro @PD.ex_augi (And.intro @PD.ex_exp (And.intro @PD.ex_ret (And.intro @PD.ex_retn (And.intro @PD.ex_ite (And.intro @PD.ex_brk (And.intro @PD.ex_cnt (And.intro @PD.ex_loop (And.intro @PD.thenM_nx (And.intro @PD.thenM_rt (And.intro @PD.thenM_bk (And.intro @PD.thenM_ct (And.intro @PD.augiM_loc (And.intro @PD.tev_is (And.intro @PD.bndT_rtn (And.intro @PD.wp_ok (And.intro @PD.wp_rtn (And.intro @PD.wp_bnd (And.intro @PD.wp_nox (And.intro @PD.sel_t (And.intro @PD.sel_f (And.intro @PD.getM_s (And.intro @PD.optM_s (And.intro @PD.newlM_fr (And.intro @PD.val_d (And.intro @PD.val_fr (And.intro @PD.items_tup (And.intro @PD.tru_bl (And.intro @PD.tru_int (And.intro @PD.tru_non (And.intro @PD.tru_tup (And.intro @PD.tru_lst (And.intro @PD.add_int (And.intro @PD.add_bl (And.intro @PD.sub_int (And.intro @PD.mul_int (And.intro @PD.fdiv_int (And.intro @PD.mod_int (And.intro @PD.add_tup (@PD.add_lst)))))))))))))))))))))))))))))))))))))))
def Wb2 := And.intro @PD.mul_lst (And.intro @PD.pow_int (And.intro @PD.aug_add (And.intro @PD.aug_sub (And.intro @PD.aug_mul (And.intro @PD.cmp_lt (And.intro @PD.cmp_le (And.intro @PD.cmp_gt (And.intro @PD.cmp_ge (And.intro @PD.eq_int (And.intro @PD.ne_int (And.intro @PD.eq_bl (And.intro @PD.ne_bl (And.intro @PD.eq_tI (And.intro @PD.ne_tI (And.intro @PD.eq_lI (And.intro @PD.ne_lI (And.intro @PD.eq_tI0 (And.intro @PD.ne_tI0 (And.intro @PD.eq_lI0 (And.intro @PD.ne_lI0 (And.intro @PD.ne_lB0 (And.intro @PD.eq_lN0 (And.intro @PD.ne_lN0 (And.intro @PD.ne_lBc (And.intro @PD.ne_lBm (And.intro @PD.ne_l00 (And.intro @PD.eq_l00 (And.intro @PD.ne_t00 (And.intro @PD.eq_t00 (And.intro @PD.eq_lIc (And.intro @PD.ne_lIc (And.intro @PD.eq_tIc (And.intro @PD.ne_tIc (And.intro @PD.is_non (And.intro @PD.isn_non (And.intro @PD.len_tup (And.intro @PD.len_lst (And.intro @PD.tuple_tup (@PD.tuple_lst)))))))))))))))))))))))))))))))))))))))
def Wb3 := And.intro @PD.list_tup (And.intro @PD.list_lst (And.intro @PD.int_int (And.intro @PD.int_bl (And.intro @PD.abs_int (And.intro @PD.max2 (And.intro @PD.min2 (And.intro @PD.sum_lI (And.intro @PD.sum_tI (And.intro @PD.mul_tup (And.intro @PD.max_lI (And.intro @PD.min_lI (And.intro @PD.all_lB (And.intro @PD.any_lB (And.intro @PD.cellM_s (And.intro @PD.lstM_loc (And.intro @PD.lstM_lst (And.intro @PD.len_loc (And.intro @PD.tuple_loc (And.intro @PD.app_loc (And.intro @PD.ext_loc (And.intro @PD.idx0_tup (And.intro @PD.idx0_lst (And.intro @PD.idx1_tup (And.intro @PD.idx1_lst (And.intro @PD.idx2_tup (And.intro @PD.idx2_lst (And.intro @PD.idxm_tup (And.intro @PD.idxm_lst (And.intro @PD.idxM_loc (And.intro @PD.stiM_loc (And.intro @PD.add_loc_lst (And.intro @PD.add_lst_loc (And.intro @PD.rev_loc (And.intro @PD.list_loc (And.intro @PD.tru_loc (And.intro @PD.itv_loc (And.intro @PD.enu_loc (And.intro @PD.bnd_no (@PD.bnd_yes)))))))))))))))))))))))))))))))))))))))
def Wb4 := And.intro @PD.slc_tup (And.intro @PD.slc_lst (And.intro @PD.slc_loc (And.intro @PD.cut_map (And.intro @PD.rev_tup (And.intro @PD.rev_lst (And.intro @PD.itv_tup (And.intro @PD.itv_lst (And.intro @PD.enu_tup (And.intro @PD.enu_lst (And.intro @PD.zip_tup (And.intro @PD.zip_lst (And.intro @PD.rng_one (And.intro @PD.rng_two (And.intro @PD.turnF_nm (And.intro @PD.turnF_tp (And.intro @PD.bindT_tp (And.intro @PD.setAll_nil (And.intro @PD.setAll_cons (And.intro @PD.turn_is (And.intro @PD.wipe_nil (And.intro @PD.wipe_cons (And.intro @PD.turnQ_nx (And.intro @PD.turnQ_ct (And.intro @PD.turnQ_bk (And.intro @PD.turnQ_rt (And.intro @PD.watch0 (And.intro @PD.callQ_rt (And.intro @PD.callQ_nx (And.intro @PD.end_same (And.intro @PD.app_get0 (And.intro @PD.app_set0 (And.intro @PD.dk_len (And.intro @PD.dk_app (And.intro @PD.dk_get2 (And.intro @PD.dk_get3 (And.intro @PD.dk_get4 (And.intro @PD.dk_get5 (And.intro @PD.dk_set2 (@PD.dk_set3)))))))))))))))))))))))))))))))))))))))
def Wb5 := And.intro @PD.dk_set4 (And.intro @PD.dk_set5 (And.intro @PD.perm_nil (And.intro @PD.perm_cons (@PD.bits10))))
end PD

/-! Rows that the laws draw. -/
namespace PD
open PySem PySem.Spec PyProof.Rows L2

theorem dk_getr {d : Dk} {r z : Store} {x : Cell} : (dkS d (r ++ x :: z))[r.length + 2]? = some x := by
  show (_ :: _ :: (r ++ x :: z))[r.length + 2]? = _
  simp
theorem dk_setr {d : Dk} {r z : Store} {x y : Cell} : (dkS d (r ++ x :: z)).set (r.length + 2) y = dkS d (r ++ y :: z) := by
  show (_ :: _ :: (r ++ x :: z)).set (r.length + 2) y = _ :: _ :: (r ++ y :: z)
  simp
theorem bd_app {k : Nat} {a b : List Int} (ha : Bd k a) (hb : Bd k b) : Bd k (a ++ b) := fun i hi => by
  rcases List.mem_append.mp hi with h | h
  · exact ha i h
  · exact hb i h
theorem bd_one {k : Nat} {i : Int} (h : i.natAbs < 2 ^ k) : Bd k [i] := fun j hj => by rw [List.mem_singleton.mp hj]; exact h
theorem bd_nil {k : Nat} : Bd k [] := fun j hj => absurd hj List.not_mem_nil
theorem Bd.mono {k m : Nat} {a : List Int} (h : Bd k a) (hm : k ≤ m) : Bd m a := fun i hi => Nat.lt_of_lt_of_le (h i hi) (Nat.pow_le_pow_right (by decide) hm)
theorem map_one (f : Int → D) (a : List Int) (i : Int) : a.map f ++ [f i] = (a ++ [i]).map f := by rw [List.map_append]; rfl
def lineL (fp : Nat) (e l : Int) : S := (S.seq (S.exp (E.mth .append (E.var 2) (E.cons (E.call fp (E.cons (E.var 0) (E.cons (E.lst (E.cons (E.cst (D.int 0)) (E.cons (E.cst (D.int 0)) (E.cons (E.cst (D.int 1)) (E.cons (E.neg (E.cst (D.int 1))) (E.cons (E.cst (D.int 2)) (E.cons (E.neg (E.cst (D.int 3))) (E.cons (E.cst (D.int 7)) (E.cons (E.neg (E.bin .pow (E.cst (D.int 10)) (E.cst (D.int e)))) (E.cons (E.bin .pow (E.cst (D.int 10)) (E.cst (D.int e))) (E.cons (E.cst (D.int l)) E.nil))))))))))) E.nil))) E.nil))) S.skip)
def lineB (fd fp : Nat) (e l : Int) : S := (S.seq (S.set 2 (E.newl (E.lst E.nil))) (S.seq (S.loop (.nm 3) (E.rng (E.cons (E.call fd (E.cons (E.var 0) (E.cons (E.bin .add (E.var 1) (E.cst (D.int 1))) E.nil))) E.nil)) (lineL fp e l)) (S.seq (S.ret (E.bi .tuple (E.cons (E.var 2) E.nil))) S.skip)))
def lineF (fd fp : Nat) (e l : Int) : Fn := { np := 2, ns := 4, body := lineB fd fp e l }
theorem wp_line {fns : List Fn} {f fd fp : Nat} {p q e l : Int} (hf : fns[f]? = some (lineF fd fp e l)) (hp : fns[fp]? = some (pickF fd)) (hd : fns[fd]? = some (drawF p q)) (hpq : -(2 ^ 64) < p ∧ p < 2 ^ 64) (he : 0 ≤ e ∧ e ≤ 11) (hl : l.natAbs < 2 ^ 40)
    {k : Nat} {n : Int} {d : Dk} {r : Store} {most : Nat} {Q : D → Store → Prop} (hm : most ≤ 1000) (D0 : d.ok n) (hn : n < 2 ^ 58)
    (h : ∀ ns d', ns.length ≤ most → Bd 40 ns → Dk.ok d' (n + 1 + most) → Q (.tup (ns.map D.int)) (dkS d' r)) : Wp (callF fns (k + 3) f [.loc 1, .int (most : Int)] (dkS d r)) Q := by
  refine wp_call hf rfl ?_
  show Wp (ex _ (lineB fd fp e l) [some (.loc 1), some (.int (most : Int)), none, none] (dkS d r)) (CallQ false _ Q)
  (simp -failIfUnchanged -dsimp -implicitDefEqProofs only [↓PD.Wa, PD.Wb0, PD.Wb1, PD.Wb2, PD.Wb3, PD.Wb4, PD.Wb5, PD.lim, PD.smallI, List.getD_cons_zero, List.getD_cons_succ, List.flatten_cons, List.flatten_nil, PD.setMany, Int.toNat_natCast, List.getElem?_cons_zero, List.getElem?_cons_succ, List.set_cons_zero, List.set_cons_succ, List.length_cons, List.length_nil, List.length_map, List.length_append, List.length_reverse, List.length_replicate, List.length_range, List.nil_append, List.append_nil, List.cons_append, Nat.zero_add, Nat.add_zero, Bool.not_true, Bool.not_false, if_true, if_false, ite_true, ite_false, decide_true, decide_false, Bool.and_true, Bool.true_and, Bool.and_false, Bool.false_and, Option.toList_none, Option.toList_some, Option.bind_some, List.replicate_zero, List.replicate_succ, List.map_nil, List.map_cons, Nat.reduceSub, Nat.reduceAdd, Nat.reduceMul, Nat.reduceLeDiff, Nat.reduceLT, Nat.reduceEqDiff, Int.reduceLE, Int.reduceLT, Int.reduceNeg, Int.reduceMul, Int.reduceAdd, Int.reduceSub, Int.reducePow, Int.reduceToNat, Int.reduceEq, true_and, and_true, eq_self, Int.zero_add, Bool.false_eq_true, lineB]; repeat ((refine wp_must (by first | (simp only [Bool.and_eq_true, decide_eq_true_eq, List.length_map, List.length_append, List.length_replicate, List.length_cons, List.length_nil]; omega) | exact mulOk_r (by omega) (by omega) | exact mulOk_l (by omega) (by omega) | exact PD.divOk_of (by omega)) ?_); simp -failIfUnchanged -dsimp -implicitDefEqProofs only [↓PD.Wa, PD.Wb0, PD.Wb1, PD.Wb2, PD.Wb3, PD.Wb4, PD.Wb5, PD.lim, PD.smallI, List.getD_cons_zero, List.getD_cons_succ, List.flatten_cons, List.flatten_nil, PD.setMany, Int.toNat_natCast, List.getElem?_cons_zero, List.getElem?_cons_succ, List.set_cons_zero, List.set_cons_succ, List.length_cons, List.length_nil, List.length_map, List.length_append, List.length_reverse, List.length_replicate, List.length_range, List.nil_append, List.append_nil, List.cons_append, Nat.zero_add, Nat.add_zero, Bool.not_true, Bool.not_false, if_true, if_false, ite_true, ite_false, decide_true, decide_false, Bool.and_true, Bool.true_and, Bool.and_false, Bool.false_and, Option.toList_none, Option.toList_some, Option.bind_some, List.replicate_zero, List.replicate_succ, List.map_nil, List.map_cons, Nat.reduceSub, Nat.reduceAdd, Nat.reduceMul, Nat.reduceLeDiff, Nat.reduceLT, Nat.reduceEqDiff, Int.reduceLE, Int.reduceLT, Int.reduceNeg, Int.reduceMul, Int.reduceAdd, Int.reduceSub, Int.reducePow, Int.reduceToNat, Int.reduceEq, true_and, and_true, eq_self, Int.zero_add, Bool.false_eq_true, lineB]))
  refine wp_draw hd hpq D0 (by omega) (by omega) fun j d1 hj D1 => ?_
  (simp -failIfUnchanged -dsimp -implicitDefEqProofs only [↓PD.Wa, PD.Wb0, PD.Wb1, PD.Wb2, PD.Wb3, PD.Wb4, PD.Wb5, PD.lim, PD.smallI, List.getD_cons_zero, List.getD_cons_succ, List.flatten_cons, List.flatten_nil, PD.setMany, Int.toNat_natCast, List.getElem?_cons_zero, List.getElem?_cons_succ, List.set_cons_zero, List.set_cons_succ, List.length_cons, List.length_nil, List.length_map, List.length_append, List.length_reverse, List.length_replicate, List.length_range, List.nil_append, List.append_nil, List.cons_append, Nat.zero_add, Nat.add_zero, Bool.not_true, Bool.not_false, if_true, if_false, ite_true, ite_false, decide_true, decide_false, Bool.and_true, Bool.true_and, Bool.and_false, Bool.false_and, Option.toList_none, Option.toList_some, Option.bind_some, List.replicate_zero, List.replicate_succ, List.map_nil, List.map_cons, Nat.reduceSub, Nat.reduceAdd, Nat.reduceMul, Nat.reduceLeDiff, Nat.reduceLT, Nat.reduceEqDiff, Int.reduceLE, Int.reduceLT, Int.reduceNeg, Int.reduceMul, Int.reduceAdd, Int.reduceSub, Int.reducePow, Int.reduceToNat, Int.reduceEq, true_and, and_true, eq_self, Int.zero_add, Bool.false_eq_true]; repeat ((refine wp_must (by first | (simp only [Bool.and_eq_true, decide_eq_true_eq, List.length_map, List.length_append, List.length_replicate, List.length_cons, List.length_nil]; omega) | exact mulOk_r (by omega) (by omega) | exact mulOk_l (by omega) (by omega) | exact PD.divOk_of (by omega)) ?_); simp -failIfUnchanged -dsimp -implicitDefEqProofs only [↓PD.Wa, PD.Wb0, PD.Wb1, PD.Wb2, PD.Wb3, PD.Wb4, PD.Wb5, PD.lim, PD.smallI, List.getD_cons_zero, List.getD_cons_succ, List.flatten_cons, List.flatten_nil, PD.setMany, Int.toNat_natCast, List.getElem?_cons_zero, List.getElem?_cons_succ, List.set_cons_zero, List.set_cons_succ, List.length_cons, List.length_nil, List.length_map, List.length_append, List.length_reverse, List.length_replicate, List.length_range, List.nil_append, List.append_nil, List.cons_append, Nat.zero_add, Nat.add_zero, Bool.not_true, Bool.not_false, if_true, if_false, ite_true, ite_false, decide_true, decide_false, Bool.and_true, Bool.true_and, Bool.and_false, Bool.false_and, Option.toList_none, Option.toList_some, Option.bind_some, List.replicate_zero, List.replicate_succ, List.map_nil, List.map_cons, Nat.reduceSub, Nat.reduceAdd, Nat.reduceMul, Nat.reduceLeDiff, Nat.reduceLT, Nat.reduceEqDiff, Int.reduceLE, Int.reduceLT, Int.reduceNeg, Int.reduceMul, Int.reduceAdd, Int.reduceSub, Int.reducePow, Int.reduceToNat, Int.reduceEq, true_and, and_true, eq_self, Int.zero_add, Bool.false_eq_true]))
  refine wp_forR [3] [none] (fun i vs s => ∃ x ns d2, vs = [x] ∧ s = dkS d2 (r ++ [.lst (ns.map D.int)]) ∧ ns.length = i ∧ Bd 40 ns ∧ d2.ok (n + 1 + i)) rfl ⟨none, [], d1, rfl, rfl, rfl, bd_nil, D1.mono (by simp)⟩ ?_ ?_
  · rintro i vs s hi ⟨x, ns, d2, rfl, rfl, hl2, hb, D2⟩
    (simp -failIfUnchanged -dsimp -implicitDefEqProofs only [↓PD.Wa, PD.Wb0, PD.Wb1, PD.Wb2, PD.Wb3, PD.Wb4, PD.Wb5, PD.lim, PD.smallI, List.getD_cons_zero, List.getD_cons_succ, List.flatten_cons, List.flatten_nil, PD.setMany, Int.toNat_natCast, List.getElem?_cons_zero, List.getElem?_cons_succ, List.set_cons_zero, List.set_cons_succ, List.length_cons, List.length_nil, List.length_map, List.length_append, List.length_reverse, List.length_replicate, List.length_range, List.nil_append, List.append_nil, List.cons_append, Nat.zero_add, Nat.add_zero, Bool.not_true, Bool.not_false, if_true, if_false, ite_true, ite_false, decide_true, decide_false, Bool.and_true, Bool.true_and, Bool.and_false, Bool.false_and, Option.toList_none, Option.toList_some, Option.bind_some, List.replicate_zero, List.replicate_succ, List.map_nil, List.map_cons, Nat.reduceSub, Nat.reduceAdd, Nat.reduceMul, Nat.reduceLeDiff, Nat.reduceLT, Nat.reduceEqDiff, Int.reduceLE, Int.reduceLT, Int.reduceNeg, Int.reduceMul, Int.reduceAdd, Int.reduceSub, Int.reducePow, Int.reduceToNat, Int.reduceEq, true_and, and_true, eq_self, Int.zero_add, Bool.false_eq_true, lineL, dk_getr]; repeat ((refine wp_must (by first | (simp only [Bool.and_eq_true, decide_eq_true_eq, List.length_map, List.length_append, List.length_replicate, List.length_cons, List.length_nil]; omega) | exact mulOk_r (by omega) (by omega) | exact mulOk_l (by omega) (by omega) | exact PD.divOk_of (by omega)) ?_); simp -failIfUnchanged -dsimp -implicitDefEqProofs only [↓PD.Wa, PD.Wb0, PD.Wb1, PD.Wb2, PD.Wb3, PD.Wb4, PD.Wb5, PD.lim, PD.smallI, List.getD_cons_zero, List.getD_cons_succ, List.flatten_cons, List.flatten_nil, PD.setMany, Int.toNat_natCast, List.getElem?_cons_zero, List.getElem?_cons_succ, List.set_cons_zero, List.set_cons_succ, List.length_cons, List.length_nil, List.length_map, List.length_append, List.length_reverse, List.length_replicate, List.length_range, List.nil_append, List.append_nil, List.cons_append, Nat.zero_add, Nat.add_zero, Bool.not_true, Bool.not_false, if_true, if_false, ite_true, ite_false, decide_true, decide_false, Bool.and_true, Bool.true_and, Bool.and_false, Bool.false_and, Option.toList_none, Option.toList_some, Option.bind_some, List.replicate_zero, List.replicate_succ, List.map_nil, List.map_cons, Nat.reduceSub, Nat.reduceAdd, Nat.reduceMul, Nat.reduceLeDiff, Nat.reduceLT, Nat.reduceEqDiff, Int.reduceLE, Int.reduceLT, Int.reduceNeg, Int.reduceMul, Int.reduceAdd, Int.reduceSub, Int.reducePow, Int.reduceToNat, Int.reduceEq, true_and, and_true, eq_self, Int.zero_add, Bool.false_eq_true, lineL, dk_getr]))
    refine wp_pick hp hd hpq D2 (by omega) (.inl rfl) ⟨by simp, by simp⟩ fun y d3 hy D3 => ?_
    have h10 : (10 ^ e.toNat : Int).natAbs < 2 ^ 40 := by
      have : e.toNat ≤ 11 := by omega
      generalize e.toNat = m at this
      have : 10 ^ m ≤ 10 ^ 11 := Nat.pow_le_pow_right (by decide) this
      have e2 : (10 ^ m : Int).natAbs = 10 ^ m := by simp [Int.natAbs_pow]
      rw [e2]; omega
    obtain ⟨c, hc, rfl⟩ : ∃ c : Int, c.natAbs < 2 ^ 40 ∧ y = .int c := by
      simp only [List.mem_cons, List.not_mem_nil, or_false] at hy
      rcases hy with rfl | rfl | rfl | rfl | rfl | rfl | rfl | rfl | rfl | rfl <;> exact ⟨_, by first | decide | exact hl | exact h10 | (rw [Int.natAbs_neg]; exact h10), rfl⟩
    (simp -failIfUnchanged -dsimp -implicitDefEqProofs only [↓PD.Wa, PD.Wb0, PD.Wb1, PD.Wb2, PD.Wb3, PD.Wb4, PD.Wb5, PD.lim, PD.smallI, List.getD_cons_zero, List.getD_cons_succ, List.flatten_cons, List.flatten_nil, PD.setMany, Int.toNat_natCast, List.getElem?_cons_zero, List.getElem?_cons_succ, List.set_cons_zero, List.set_cons_succ, List.length_cons, List.length_nil, List.length_map, List.length_append, List.length_reverse, List.length_replicate, List.length_range, List.nil_append, List.append_nil, List.cons_append, Nat.zero_add, Nat.add_zero, Bool.not_true, Bool.not_false, if_true, if_false, ite_true, ite_false, decide_true, decide_false, Bool.and_true, Bool.true_and, Bool.and_false, Bool.false_and, Option.toList_none, Option.toList_some, Option.bind_some, List.replicate_zero, List.replicate_succ, List.map_nil, List.map_cons, Nat.reduceSub, Nat.reduceAdd, Nat.reduceMul, Nat.reduceLeDiff, Nat.reduceLT, Nat.reduceEqDiff, Int.reduceLE, Int.reduceLT, Int.reduceNeg, Int.reduceMul, Int.reduceAdd, Int.reduceSub, Int.reducePow, Int.reduceToNat, Int.reduceEq, true_and, and_true, eq_self, Int.zero_add, Bool.false_eq_true, dk_getr, dk_setr, map_one]; repeat ((refine wp_must (by first | (simp only [Bool.and_eq_true, decide_eq_true_eq, List.length_map, List.length_append, List.length_replicate, List.length_cons, List.length_nil]; omega) | exact mulOk_r (by omega) (by omega) | exact mulOk_l (by omega) (by omega) | exact PD.divOk_of (by omega)) ?_); simp -failIfUnchanged -dsimp -implicitDefEqProofs only [↓PD.Wa, PD.Wb0, PD.Wb1, PD.Wb2, PD.Wb3, PD.Wb4, PD.Wb5, PD.lim, PD.smallI, List.getD_cons_zero, List.getD_cons_succ, List.flatten_cons, List.flatten_nil, PD.setMany, Int.toNat_natCast, List.getElem?_cons_zero, List.getElem?_cons_succ, List.set_cons_zero, List.set_cons_succ, List.length_cons, List.length_nil, List.length_map, List.length_append, List.length_reverse, List.length_replicate, List.length_range, List.nil_append, List.append_nil, List.cons_append, Nat.zero_add, Nat.add_zero, Bool.not_true, Bool.not_false, if_true, if_false, ite_true, ite_false, decide_true, decide_false, Bool.and_true, Bool.true_and, Bool.and_false, Bool.false_and, Option.toList_none, Option.toList_some, Option.bind_some, List.replicate_zero, List.replicate_succ, List.map_nil, List.map_cons, Nat.reduceSub, Nat.reduceAdd, Nat.reduceMul, Nat.reduceLeDiff, Nat.reduceLT, Nat.reduceEqDiff, Int.reduceLE, Int.reduceLT, Int.reduceNeg, Int.reduceMul, Int.reduceAdd, Int.reduceSub, Int.reducePow, Int.reduceToNat, Int.reduceEq, true_and, and_true, eq_self, Int.zero_add, Bool.false_eq_true, dk_getr, dk_setr, map_one]))
    exact ⟨[_], rfl, _, ns ++ [c], d3, rfl, rfl, by rw [List.length_append, hl2]; rfl, bd_app hb (bd_one hc), D3.mono (by push_cast; omega)⟩
  · rintro vs s ⟨x, ns, d2, rfl, rfl, hl2, hb, D2⟩
    (simp -failIfUnchanged -dsimp -implicitDefEqProofs only [↓PD.Wa, PD.Wb0, PD.Wb1, PD.Wb2, PD.Wb3, PD.Wb4, PD.Wb5, PD.lim, PD.smallI, List.getD_cons_zero, List.getD_cons_succ, List.flatten_cons, List.flatten_nil, PD.setMany, Int.toNat_natCast, List.getElem?_cons_zero, List.getElem?_cons_succ, List.set_cons_zero, List.set_cons_succ, List.length_cons, List.length_nil, List.length_map, List.length_append, List.length_reverse, List.length_replicate, List.length_range, List.nil_append, List.append_nil, List.cons_append, Nat.zero_add, Nat.add_zero, Bool.not_true, Bool.not_false, if_true, if_false, ite_true, ite_false, decide_true, decide_false, Bool.and_true, Bool.true_and, Bool.and_false, Bool.false_and, Option.toList_none, Option.toList_some, Option.bind_some, List.replicate_zero, List.replicate_succ, List.map_nil, List.map_cons, Nat.reduceSub, Nat.reduceAdd, Nat.reduceMul, Nat.reduceLeDiff, Nat.reduceLT, Nat.reduceEqDiff, Int.reduceLE, Int.reduceLT, Int.reduceNeg, Int.reduceMul, Int.reduceAdd, Int.reduceSub, Int.reducePow, Int.reduceToNat, Int.reduceEq, true_and, and_true, eq_self, Int.zero_add, Bool.false_eq_true, dk_getr]; repeat ((refine wp_must (by first | (simp only [Bool.and_eq_true, decide_eq_true_eq, List.length_map, List.length_append, List.length_replicate, List.length_cons, List.length_nil]; omega) | exact mulOk_r (by omega) (by omega) | exact mulOk_l (by omega) (by omega) | exact PD.divOk_of (by omega)) ?_); simp -failIfUnchanged -dsimp -implicitDefEqProofs only [↓PD.Wa, PD.Wb0, PD.Wb1, PD.Wb2, PD.Wb3, PD.Wb4, PD.Wb5, PD.lim, PD.smallI, List.getD_cons_zero, List.getD_cons_succ, List.flatten_cons, List.flatten_nil, PD.setMany, Int.toNat_natCast, List.getElem?_cons_zero, List.getElem?_cons_succ, List.set_cons_zero, List.set_cons_succ, List.length_cons, List.length_nil, List.length_map, List.length_append, List.length_reverse, List.length_replicate, List.length_range, List.nil_append, List.append_nil, List.cons_append, Nat.zero_add, Nat.add_zero, Bool.not_true, Bool.not_false, if_true, if_false, ite_true, ite_false, decide_true, decide_false, Bool.and_true, Bool.true_and, Bool.and_false, Bool.false_and, Option.toList_none, Option.toList_some, Option.bind_some, List.replicate_zero, List.replicate_succ, List.map_nil, List.map_cons, Nat.reduceSub, Nat.reduceAdd, Nat.reduceMul, Nat.reduceLeDiff, Nat.reduceLT, Nat.reduceEqDiff, Int.reduceLE, Int.reduceLT, Int.reduceNeg, Int.reduceMul, Int.reduceAdd, Int.reduceSub, Int.reducePow, Int.reduceToNat, Int.reduceEq, true_and, and_true, eq_self, Int.zero_add, Bool.false_eq_true, dk_getr]))
    rw [end_dk (by rw [bare_tup]; exact bare_ints ns)]
    exact h ns d2 (by omega) hb (D2.mono (by omega))
end PD

/-! Rows by their places. -/
namespace PD
open PySem PySem.Spec PyProof.Rows L2
theorem row_range {α : Type} (g : α → D) (l : List α) (d : α) : l.map g = (List.range l.length).map fun k => g (l.getD k d) := by
  refine List.ext_getElem (by simp) fun i h1 h2 => ?_
  simp at h1 h2 ⊢
  rw [List.getElem?_eq_getElem h1]; rfl
theorem enum_range {k0 : Int} (a : List Int) : enumL k0 (a.map D.int) = (List.range a.length).map fun k => D.tup [.int (k0 + (k : Nat)), .int (a.getD k 0)] := by
  rw [enumL_map]
  refine List.ext_getElem (by simp) fun i h1 h2 => ?_
  simp at h1 h2 ⊢
  rw [List.getElem?_eq_getElem h1]; rfl
theorem zip_range (a b : List Int) : zipL (a.map D.int) (b.map D.int) = (List.range (min a.length b.length)).map fun k => D.tup [.int (a.getD k 0), .int (b.getD k 0)] := by
  rw [zipL_map]
  refine List.ext_getElem (by simp) fun i h1 h2 => ?_
  simp at h1 h2 ⊢
  rw [List.getElem?_eq_getElem (by omega), List.getElem?_eq_getElem (by omega)]; exact ⟨rfl, rfl⟩
theorem idx_tI {a : List Int} {k : Int} (h : 0 ≤ k ∧ k < a.length) : idxM (.tup (a.map D.int)) (.int k) = rtn (.d (.int (a.getD k.toNat 0))) := by
  have hk : k.toNat < a.length := by omega
  rw [idxM_tup, ixN_pos (by rw [List.length_map]; exact h), Option.bind_some, List.getElem?_map, List.getElem?_eq_getElem hk]
  simp [List.getD, List.getElem?_eq_getElem hk]; rfl
theorem idx_lI {a : List Int} {k : Int} (h : 0 ≤ k ∧ k < a.length) : idxM (.lst (a.map D.int)) (.int k) = rtn (.d (.int (a.getD k.toNat 0))) := by
  have hk : k.toNat < a.length := by omega
  rw [idxM_lst, ixN_pos (by rw [List.length_map]; exact h), Option.bind_some, List.getElem?_map, List.getElem?_eq_getElem hk]
  simp [List.getD, List.getElem?_eq_getElem hk]; rfl
theorem idx_tIm {a : List Int} (h : 0 < a.length) : idxM (.tup (a.map D.int)) (.int (-1)) = rtn (.d (.int (a.getD (a.length - 1) 0))) := by
  have hk : a.length - 1 < a.length := by omega
  rw [idxM_tup, ixN_neg (by rw [List.length_map]; omega), Option.bind_some, List.getElem?_map, List.length_map]
  rw [show (-1 + (a.length : Int)).toNat = a.length - 1 by omega, List.getElem?_eq_getElem hk]
  simp [List.getD, List.getElem?_eq_getElem hk]; rfl
theorem idx_lIm {a : List Int} (h : 0 < a.length) : idxM (.lst (a.map D.int)) (.int (-1)) = rtn (.d (.int (a.getD (a.length - 1) 0))) := by
  have hk : a.length - 1 < a.length := by omega
  rw [idxM_lst, ixN_neg (by rw [List.length_map]; omega), Option.bind_some, List.getElem?_map, List.length_map]
  rw [show (-1 + (a.length : Int)).toNat = a.length - 1 by omega, List.getElem?_eq_getElem hk]
  simp [List.getD, List.getElem?_eq_getElem hk]; rfl
theorem Bd.get {k : Nat} {a : List Int} (h : Bd k a) (j : Nat) : (a.getD j 0).natAbs < 2 ^ k := by
  by_cases hj : j < a.length
  · rw [List.getD_eq_getElem?_getD, List.getElem?_eq_getElem hj]
    exact h _ (List.getElem_mem hj)
  · rw [List.getD_eq_getElem?_getD, List.getElem?_eq_none (by omega)]
    exact Nat.pow_pos (by decide)
set_option exponentiation.threshold 500000 in
theorem mulOk_bd {i j : Int} (h : i.natAbs < 2 ^ 400000) (h2 : j.natAbs < 2 ^ 400000) : mulOk i j = true := by
  have lg : ∀ n : Nat, n < 2 ^ 400000 → n.log2 < 400000 := fun n hn => by
    by_cases h0 : n = 0
    · subst h0; decide
    · exact (Nat.log2_lt h0).mpr hn
  unfold mulOk
  rw [Bool.or_eq_true]
  refine .inr (decide_eq_true ?_)
  have h3 := lg _ h
  have h4 := lg _ h2
  exact Nat.lt_of_lt_of_le (Nat.add_lt_add h3 h4) (by decide)
theorem lt_pow {n k m : Nat} (h : n < 2 ^ k) (hk : k ≤ m) : n < 2 ^ m := Nat.lt_of_lt_of_le h (Nat.pow_le_pow_right (by decide) hk)
theorem mulOk_Bd {k : Nat} {i j : Int} (h : i.natAbs < 2 ^ k) (h2 : j.natAbs < 2 ^ k) (hk : k ≤ 400000) : mulOk i j = true := mulOk_bd (lt_pow h hk) (lt_pow h2 hk)
/-- the places of the numbers that are not 0, from k on -/
def nzF : Nat → List Int → List Nat
  | _, [] => []
  | k, i :: l => if i ≠ 0 then k :: nzF (k + 1) l else nzF (k + 1) l
theorem nzF_app : ∀ (a b : List Int) (k : Nat), nzF k (a ++ b) = nzF k a ++ nzF (k + a.length) b
  | [], b, k => by simp [nzF]
  | i :: a, b, k => by
    have ih := nzF_app a b (k + 1)
    rw [List.cons_append, nzF, nzF, ih, List.length_cons]
    have e : k + 1 + a.length = k + (a.length + 1) := by omega
    rw [e]
    split <;> simp
theorem nzF_zero : ∀ (n k : Nat), nzF k (List.replicate n 0) = []
  | 0, _ => rfl
  | n + 1, k => by rw [List.replicate_succ, nzF, if_neg (by simp), nzF_zero n (k + 1)]
theorem nzF_enum : ∀ (a : List Int) (k : Nat), (a.zipIdx k).filterMap (fun x => if x.1 ≠ 0 then some (D.int (x.2 : Int)) else none) = (nzF k a).map fun j : Nat => D.int (j : Int)
  | [], _ => rfl
  | i :: a, k => by
    rw [List.zipIdx_cons, nzF]
    by_cases h : i = 0
    · rw [List.filterMap_cons_none (by simp [h]), nzF_enum a (k + 1), if_neg (by simp [h])]
    · rw [List.filterMap_cons_some (b := D.int (k : Int)) (by simp [h]), nzF_enum a (k + 1), if_pos h]; rfl
theorem nz_range (a : List Int) : (List.range a.length).filterMap (fun k => if a.getD k 0 ≠ 0 then some (D.int (k : Nat)) else none) = (nzF 0 a).map fun j : Nat => D.int (j : Int) := by
  rw [← nzF_enum a 0]
  have e : a.zipIdx = (List.range a.length).map fun k => (a.getD k 0, k) := by
    refine List.ext_getElem (by simp) fun i h1 h2 => ?_
    simp at h1 h2 ⊢
    rw [List.getElem?_eq_getElem h1]; rfl
  rw [e, List.filterMap_map]
  rfl
theorem nzF_mem : ∀ {a : List Int} {k j : Nat}, j ∈ nzF k a ↔ k ≤ j ∧ j < k + a.length ∧ a.getD (j - k) 0 ≠ 0
  | [], k, j => by simp [nzF]
  | i :: a, k, j => by
    have ih := nzF_mem (a := a) (k := k + 1) (j := j)
    rw [nzF]
    have h1 : j ∈ (if i ≠ 0 then k :: nzF (k + 1) a else nzF (k + 1) a) ↔ (i ≠ 0 ∧ j = k) ∨ j ∈ nzF (k + 1) a := by
      split
      · rename_i h; simp [h]
      · rename_i h; simp [h]
    rw [h1, ih, List.length_cons]
    constructor
    · rintro (⟨h, rfl⟩ | ⟨h2, h3, h4⟩)
      · refine ⟨Nat.le_refl _, by omega, ?_⟩
        rw [Nat.sub_self]; simpa using h
      · refine ⟨by omega, by omega, ?_⟩
        rw [show j - k = (j - (k + 1)) + 1 by omega]
        simpa using h4
    · rintro ⟨h2, h3, h4⟩
      by_cases hjk : j = k
      · subst hjk
        rw [Nat.sub_self] at h4
        exact .inl ⟨by simpa using h4, rfl⟩
      · refine .inr ⟨by omega, by omega, ?_⟩
        rw [show j - k = (j - (k + 1)) + 1 by omega] at h4
        simpa using h4
theorem nzF_len : ∀ (a : List Int) (k : Nat), (nzF k a).length ≤ a.length
  | [], _ => Nat.le_refl _
  | i :: a, k => by
    have := nzF_len a (k + 1)
    rw [nzF, List.length_cons]
    split
    · rw [List.length_cons]; omega
    · omega
def noth (a : List Int) : Bool := a.all fun i => decide (i = 0)
theorem noth_iff {a : List Int} : noth a = true ↔ ∀ k, a.getD k 0 = 0 := by
  unfold noth
  rw [List.all_eq_true]
  constructor
  · intro h k
    by_cases hk : k < a.length
    · rw [List.getD_eq_getElem?_getD, List.getElem?_eq_getElem hk]
      exact of_decide_eq_true (h _ (List.getElem_mem hk))
    · rw [List.getD_eq_getElem?_getD, List.getElem?_eq_none (by omega)]; rfl
  · intro h i hi
    obtain ⟨k, hk, rfl⟩ := List.mem_iff_getElem.mp hi
    have := h k
    rw [List.getD_eq_getElem?_getD, List.getElem?_eq_getElem hk] at this
    exact decide_eq_true this
theorem nz_nil {a : List Int} : nzF 0 a = [] ↔ noth a = true := by
  rw [noth_iff]
  constructor
  · intro h k
    by_cases hk : a.getD k 0 = 0
    · exact hk
    · have hl : k < a.length := by
        by_cases z : k < a.length
        · exact z
        · exact absurd (by rw [List.getD_eq_getElem?_getD, List.getElem?_eq_none (by omega)]; rfl) hk
      have : k ∈ nzF 0 a := nzF_mem.mpr ⟨Nat.zero_le _, by omega, by simpa using hk⟩
      rw [h] at this; cases this
  · intro h
    cases e : nzF 0 a with
    | nil => rfl
    | cons j r =>
      have : j ∈ nzF 0 a := by rw [e]; simp
      exact absurd (h j) (by have := (nzF_mem.mp this).2.2; simpa using this)
end PD

/-! More of rows. -/
namespace PD
open PySem PySem.Spec PyProof.Rows L2
theorem filt_if {α β : Type} (p : α → Bool) (f : α → β) : ∀ l : List α, l.filterMap (fun x => if p x = true then some (f x) else none) = (l.filter p).map f
  | [] => rfl
  | x :: l => by
    by_cases h : p x = true
    · rw [List.filterMap_cons_some (by rw [if_pos h]), filt_if p f l, List.filter_cons_of_pos h]; rfl
    · rw [List.filterMap_cons_none (by rw [if_neg h]), filt_if p f l, List.filter_cons_of_neg h]
/-- a comprehension with a test -/
theorem wp_filt {α : Type} {T : Tg} {f : En → M (Option D)} {en : En} {st : Store} {w : List Nat} {xs : List D} (g : α → D) (p : α → Bool) (h : α → D) {Q : R → Store → Prop} (as : List α) (hx : xs = as.map g) (hw : watchOk w st st = true)
    (step : ∀ x ∈ as, Wp (turnF T f (g x) en st) (fun o s => o = (if p x = true then some (h x) else none) ∧ s = st)) (done : Q (.fr ((as.filter p).map h)) st) : Wp (compM T f en (.it xs w) st) Q := by
  refine wp_comp g (fun x => if p x = true then some (h x) else none) as hx hw step ?_
  rw [filt_if]; exact done
theorem filt_nil {a : List Int} : a.filter (fun i => decide (i ≠ 0)) = [] ↔ noth a = true := by
  unfold noth
  rw [List.filter_eq_nil_iff, List.all_eq_true]
  constructor
  · intro h i hi
    have := h i hi
    simpa using this
  · intro h i hi
    have := h i hi
    simpa using this
theorem zer_flat (k : Nat) : (List.replicate k [D.int 0]).flatten = List.map D.int (List.replicate k 0) := by
  induction k with
  | zero => rfl
  | succ n ih => rw [List.replicate_succ, List.flatten_cons, ih, List.replicate_succ]; rfl
theorem bd_zeros {m : Nat} (k : Nat) : Bd m (List.replicate k 0) := fun i hi => by
  rw [List.eq_of_mem_replicate hi]; exact Nat.pow_pos (by decide)
theorem map_bl {α : Type} (f : α → Bool) (l : List α) : (l.map fun k => D.bl (f k)) = (l.map f).map D.bl := by rw [List.map_map]; rfl
theorem map_int {α : Type} (f : α → Int) (l : List α) : (l.map fun k => D.int (f k)) = (l.map f).map D.int := by rw [List.map_map]; rfl
theorem map_nat (l : List Nat) : (l.map fun k : Nat => D.int (k : Int)) = (l.map fun k : Nat => (k : Int)).map D.int := by rw [List.map_map]; rfl
theorem bd_mul {k : Nat} {c : Int} {a : List Int} (h : Bd k a) {m : Nat} (hc : c.natAbs < 2 ^ m) : Bd (m + k) (a.map (c * ·)) := fun i hi => by
  obtain ⟨j, hj, rfl⟩ := List.mem_map.mp hi
  rw [Int.natAbs_mul, Nat.pow_add]
  exact Nat.mul_lt_mul'' hc (h j hj)
theorem bd_rev {k : Nat} {a : List Int} (h : Bd k a) : Bd k a.reverse := fun i hi => h i (List.mem_reverse.mp hi)
theorem bd_take {k n : Nat} {a : List Int} (h : Bd k a) : Bd k (a.take n) := fun i hi => h i (List.mem_of_mem_take hi)
theorem bd_drop {k n : Nat} {a : List Int} (h : Bd k a) : Bd k (a.drop n) := fun i hi => h i (List.mem_of_mem_drop hi)
theorem bd_cons {k : Nat} {i : Int} {a : List Int} (h : i.natAbs < 2 ^ k) (ha : Bd k a) : Bd k (i :: a) := fun j hj => by
  rcases List.mem_cons.mp hj with rfl | hj
  · exact h
  · exact ha j hj
theorem eq_lB (ms ns : List Bool) : cmpM .eq (.lst (ms.map D.bl)) (.lst (ns.map D.bl)) = rtn (decide (ms = ns)) := by
  funext st
  rw [cmp_eq_of (pyS_lB ms) (pyS_lB ns) (shaped_lB ms) (shaped_lB ns)]
  simp [PyData.eqv, eqv_bls, rtn]
theorem dats_rows {k L : Nat} (hk : 0 < k ∧ k ≤ 1919) : ∀ l : List (List Int), (∀ r ∈ l, Bd k r ∧ r.length ≤ L) → Dats 1 (L * (k + 3) + 3) (l.map fun r => .tup (r.map D.int)) (l.map fun r => .tuple (r.map PyData.int))
  | [], _ => .nil
  | r :: l, h => .cons (dat_tI (h r (List.mem_cons_self ..)).1 hk L (h r (List.mem_cons_self ..)).2) (dats_rows hk l fun q hq => h q (List.mem_cons_of_mem _ hq))
/-- a statement that changes nothing -/
theorem wp_still {C : Cfg} {y : S} {en : En} {st : Store} {Q : Fl → Store → Prop} (h : Wp (ex C y en st) (fun fl s => fl = .nx en ∧ s = st)) (hq : Q (.nx en) st) : Wp (ex C y en st) Q :=
  wp_mono h fun _ _ e => by obtain ⟨rfl, rfl⟩ := e; exact hq
/-- what a law's end wants -/
theorem end_law {s : Store} : Wp (endCall false [] (.bl true) s) fun v _ => v = .bl true := wp_of (end_own (st := []) (r := s) bare_bl) rfl
theorem law_of {fns : List Fn} {k j : Nat} {ns : List Int} (q : Wp (callF fns k j [.scr (ns.map D.int)] []) (fun v _ => v = .bl true)) : ∃ st', callF fns k j [.scr (ns.map D.int)] [] = .ok (.bl true) st' := by
  obtain ⟨v, s, e, rfl⟩ := wp_get q
  exact ⟨s, e⟩
theorem ite_bl (b : Bool) {α : Type} (x y : α) : (if decide (b = true) = true then x else y) = if b = true then x else y := by cases b <;> rfl
end PD

/-! Rows as polynomials, plainly. -/
namespace PD
/-- a row's number at a place -/
def co (a : List Int) (k : Nat) : Int := a.getD k 0
def sm : Nat → (Nat → Int) → Int
  | 0, _ => 0
  | n + 1, f => sm n f + f n
def sh (f : Nat → Int) : Nat → Int
  | 0 => 0
  | k + 1 => f k
def shN (n : Nat) (f : Nat → Int) (k : Nat) : Int := if n ≤ k then f (k - n) else 0
theorem sm_congr {n : Nat} {f g : Nat → Int} (h : ∀ i < n, f i = g i) : sm n f = sm n g := by
  induction n with
  | zero => rfl
  | succ n ih => rw [sm, sm, ih fun i hi => h i (by omega), h n (by omega)]
theorem sm_zero {n : Nat} {f : Nat → Int} (h : ∀ i < n, f i = 0) : sm n f = 0 := by
  induction n with
  | zero => rfl
  | succ n ih => rw [sm, ih fun i hi => h i (by omega), h n (by omega)]; rfl
theorem sm_add (n : Nat) (f g : Nat → Int) : sm n (fun i => f i + g i) = sm n f + sm n g := by
  induction n with
  | zero => rfl
  | succ n ih => rw [sm, sm, sm, ih]; omega
theorem sm_mul (n : Nat) (c : Int) (f : Nat → Int) : sm n (fun i => c * f i) = c * sm n f := by
  induction n with
  | zero => simp [sm]
  | succ n ih => rw [sm, sm, ih, Int.mul_add]
theorem sm_front (n : Nat) (f : Nat → Int) : sm (n + 1) f = f 0 + sm n fun i => f (i + 1) := by
  induction n with
  | zero => simp [sm]
  | succ n ih => rw [sm, ih, sm, Int.add_assoc]
theorem sm_more {n m : Nat} {f : Nat → Int} (h : n ≤ m) (hz : ∀ i, n ≤ i → i < m → f i = 0) : sm m f = sm n f := by
  induction m with
  | zero => rw [show n = 0 by omega]
  | succ m ih =>
    by_cases e : n = m + 1
    · rw [e]
    · rw [sm, ih (by omega) fun i h1 h2 => hz i h1 (by omega), hz m (by omega) (by omega), Int.add_zero]
theorem sm_sum (n : Nat) (f : Nat → Int) : ((List.range n).map f).sum = sm n f := by
  induction n with
  | zero => rfl
  | succ n ih => rw [List.range_succ, List.map_append, List.sum_append, ih, sm]; simp
theorem co_nil (k : Nat) : co [] k = 0 := by simp [co]
theorem co_cons0 (x : Int) (a : List Int) : co (x :: a) 0 = x := by simp [co]
theorem co_cons (x : Int) (a : List Int) (k : Nat) : co (x :: a) (k + 1) = co a k := by simp [co]
theorem co_out {a : List Int} {k : Nat} (h : a.length ≤ k) : co a k = 0 := by
  unfold co; rw [List.getD_eq_getElem?_getD, List.getElem?_eq_none h]; rfl
theorem co_app (p q : List Int) (k : Nat) : co (p ++ q) k = co p k + shN p.length (co q) k := by
  unfold shN co
  rw [List.getD_eq_getElem?_getD, List.getD_eq_getElem?_getD, List.getD_eq_getElem?_getD]
  by_cases h : k < p.length
  · rw [List.getElem?_append_left h, if_neg (by omega)]; simp
  · rw [List.getElem?_append_right (by omega), if_pos (by omega), List.getElem?_eq_none (by omega : p.length ≤ k)]; simp
theorem ext_co {a b : List Int} (hl : a.length = b.length) (h : ∀ k, co a k = co b k) : a = b := by
  refine List.ext_getElem hl fun k h1 h2 => ?_
  have := h k
  unfold co at this
  rw [List.getD_eq_getElem?_getD, List.getD_eq_getElem?_getD, List.getElem?_eq_getElem h1, List.getElem?_eq_getElem h2] at this
  exact this
theorem co_range (n : Nat) (f : Nat → Int) (k : Nat) : co ((List.range n).map f) k = if k < n then f k else 0 := by
  unfold co
  rw [List.getD_eq_getElem?_getD, List.getElem?_map]
  split
  · rename_i h; rw [List.getElem?_range h]; rfl
  · rename_i h; rw [List.getElem?_eq_none (by simp; omega)]; rfl
/-- the product with a series -/
def cv (a : List Int) (g : Nat → Int) (k : Nat) : Int := sm a.length fun i => co a i * shN i g k
theorem cv_nil (g : Nat → Int) (k : Nat) : cv [] g k = 0 := rfl
theorem shN_0 (g : Nat → Int) (k : Nat) : shN 0 g k = g k := by simp [shN]
theorem shN_s (n : Nat) (g : Nat → Int) (k : Nat) : shN (n + 1) g k = sh (shN n g) k := by
  cases k with
  | zero => simp [shN, sh]
  | succ k => simp [shN, sh]
theorem cv_cons (x : Int) (a : List Int) (g : Nat → Int) (k : Nat) : cv (x :: a) g k = x * g k + sh (cv a g) k := by
  unfold cv
  rw [List.length_cons, sm_front, co_cons0, shN_0]
  congr 1
  cases k with
  | zero => exact sm_zero fun i _ => by simp [shN]
  | succ k =>
    show _ = sm a.length fun i => co a i * shN i g k
    exact sm_congr fun i _ => by rw [co_cons, shN_s]; rfl
theorem cv_snoc (p : List Int) (x : Int) (g : Nat → Int) (k : Nat) : cv (p ++ [x]) g k = cv p g k + x * shN p.length g k := by
  unfold cv
  rw [List.length_append, List.length_singleton, sm]
  have e : co (p ++ [x]) p.length = x := by simp [co]
  rw [e]
  congr 1
  refine sm_congr fun i hi => ?_
  rw [co_app]
  rw [show shN p.length (co [x]) i = 0 by unfold shN; rw [if_neg (by omega)], Int.add_zero]
/-- the product of two rows -/
def mulR (a b : List Int) : List Int := if a = [] ∨ b = [] then [] else (List.range (a.length + b.length - 1)).map (cv a (co b))
theorem mulR_len {a b : List Int} (ha : a ≠ []) (hb : b ≠ []) : (mulR a b).length = a.length + b.length - 1 := by
  unfold mulR; rw [if_neg (by simp [ha, hb])]; simp
theorem mulR_le (a b : List Int) : (mulR a b).length ≤ a.length + b.length := by
  unfold mulR; split
  · simp
  · rw [List.length_map, List.length_range]; omega
theorem cv_zero {a : List Int} {g : Nat → Int} (h : ∀ k, g k = 0) (k : Nat) : cv a g k = 0 := sm_zero fun i _ => by unfold shN; split <;> simp [h]
theorem co_mulR (a b : List Int) (k : Nat) : co (mulR a b) k = cv a (co b) k := by
  unfold mulR
  split
  · rename_i h
    rw [co_nil]
    rcases h with rfl | rfl
    · rfl
    · exact (cv_zero co_nil k).symm
  · rename_i h
    rw [co_range]
    split
    · rfl
    · rename_i hk
      refine (sm_zero fun i hi => ?_).symm
      have ha : 0 < a.length := List.length_pos_iff.mpr fun z => h (.inl z)
      unfold shN
      split
      · rw [co_out (a := b) (by omega), Int.mul_zero]
      · simp
theorem mulR_nil {a b : List Int} : mulR a b = [] ↔ a = [] ∨ b = [] := by
  constructor
  · intro h
    by_cases z : a = [] ∨ b = []
    · exact z
    · have := mulR_len (a := a) (b := b) (fun q => z (.inl q)) (fun q => z (.inr q))
      rw [h] at this
      have h1 : 0 < a.length := List.length_pos_iff.mpr fun q => z (.inl q)
      have h2 : 0 < b.length := List.length_pos_iff.mpr fun q => z (.inr q)
      simp at this; omega
  · intro h; unfold mulR; rw [if_pos h]
/-! linear in the series -/
theorem cv_addg (a : List Int) (g h : Nat → Int) (k : Nat) : cv a (fun i => g i + h i) k = cv a g k + cv a h k := by
  unfold cv
  rw [← sm_add]
  refine sm_congr fun i _ => ?_
  unfold shN; split
  · rw [Int.mul_add]
  · simp
theorem cv_mulg (a : List Int) (c : Int) (g : Nat → Int) (k : Nat) : cv a (fun i => c * g i) k = c * cv a g k := by
  unfold cv
  rw [← sm_mul]
  refine sm_congr fun i _ => ?_
  unfold shN; split
  · exact Int.mul_left_comm ..
  · simp
theorem cv_shg (a : List Int) (g : Nat → Int) (k : Nat) : cv a (sh g) k = sh (cv a g) k := by
  cases k with
  | zero =>
    refine sm_zero fun i _ => ?_
    unfold shN; split
    · rw [Nat.zero_sub]; simp [sh]
    · simp
  | succ k =>
    show cv a (sh g) (k + 1) = sm a.length fun i => co a i * shN i g k
    unfold cv
    refine sm_congr fun i _ => ?_
    congr 1
    unfold shN
    by_cases h : i ≤ k
    · rw [if_pos (by omega), if_pos h, show k + 1 - i = (k - i) + 1 by omega]; rfl
    · by_cases h2 : i = k + 1
      · rw [if_pos (by omega), if_neg h, h2, Nat.sub_self]; rfl
      · rw [if_neg (by omega), if_neg h]
/-- as a product of series -/
def cvF (f g : Nat → Int) (k : Nat) : Int := sm (k + 1) fun i => f i * g (k - i)
theorem cv_F (a : List Int) (g : Nat → Int) (k : Nat) : cv a g k = cvF (co a) g k := by
  unfold cv cvF
  by_cases h : a.length ≤ k + 1
  · rw [sm_more h fun i h1 _ => by rw [co_out h1, Int.zero_mul]]
    exact sm_congr fun i hi => by unfold shN; rw [if_pos (by omega)]
  · rw [sm_more (n := k + 1) (m := a.length) (f := fun i => co a i * shN i g k) (by omega) fun i h1 _ => by
      show co a i * shN i g k = 0
      unfold shN; rw [if_neg (by omega), Int.mul_zero]]
    exact sm_congr fun i hi => by unfold shN; rw [if_pos (by omega)]
theorem cvF_congr {f f' g g' : Nat → Int} (h : ∀ k, f k = f' k) (h2 : ∀ k, g k = g' k) (k : Nat) : cvF f g k = cvF f' g' k := sm_congr fun i _ => by rw [h, h2]
theorem cvF_add (f f' g : Nat → Int) (k : Nat) : cvF (fun i => f i + f' i) g k = cvF f g k + cvF f' g k := by
  unfold cvF
  rw [← sm_add]
  exact sm_congr fun i _ => Int.add_mul ..
theorem cvF_mul (c : Int) (f g : Nat → Int) (k : Nat) : cvF (fun i => c * f i) g k = c * cvF f g k := by
  unfold cvF
  rw [← sm_mul]
  exact sm_congr fun i _ => Int.mul_assoc ..
theorem cvF_sh (f g : Nat → Int) (k : Nat) : cvF (sh f) g k = sh (cvF f g) k := by
  cases k with
  | zero => simp [cvF, sm, sh]
  | succ k =>
    show sm (k + 1 + 1) _ = sm (k + 1) _
    rw [sm_front]
    show 0 * _ + _ = _
    rw [Int.zero_mul, Int.zero_add]
    refine sm_congr fun i _ => ?_
    show f i * g (k + 1 - (i + 1)) = _
    rw [show k + 1 - (i + 1) = k - i by omega]
theorem cvF_zero {f : Nat → Int} (h : ∀ k, f k = 0) (g : Nat → Int) (k : Nat) : cvF f g k = 0 := sm_zero fun i _ => by rw [h, Int.zero_mul]
theorem cvF_assoc (a : List Int) (g h : Nat → Int) (k : Nat) : cvF (cv a g) h k = cv a (cvF g h) k := by
  induction a generalizing k with
  | nil => exact cvF_zero (cv_nil g) h k
  | cons x a ih =>
    rw [cvF_congr (f' := fun i => x * g i + sh (cv a g) i) (fun k => cv_cons x a g k) (fun _ => rfl), cvF_add, cvF_mul, cvF_sh, cv_cons]
    congr 1
    cases k with
    | zero => rfl
    | succ k => exact ih k
theorem cv_congr {a : List Int} {g g' : Nat → Int} (h : ∀ k, g k = g' k) (k : Nat) : cv a g k = cv a g' k := by rw [show g = g' from funext h]
theorem mulR_assoc (a b c : List Int) : mulR (mulR a b) c = mulR a (mulR b c) := by
  by_cases z : a = [] ∨ b = [] ∨ c = []
  · have e1 : mulR (mulR a b) c = [] := mulR_nil.mpr (by
      rcases z with z | z | z
      · exact .inl (mulR_nil.mpr (.inl z))
      · exact .inl (mulR_nil.mpr (.inr z))
      · exact .inr z)
    have e2 : mulR a (mulR b c) = [] := mulR_nil.mpr (by
      rcases z with z | z | z
      · exact .inl z
      · exact .inr (mulR_nil.mpr (.inl z))
      · exact .inr (mulR_nil.mpr (.inr z)))
    rw [e1, e2]
  · have ha : a ≠ [] := fun q => z (.inl q)
    have hb : b ≠ [] := fun q => z (.inr (.inl q))
    have hc : c ≠ [] := fun q => z (.inr (.inr q))
    have hab : mulR a b ≠ [] := fun q => by rcases mulR_nil.mp q with q | q <;> contradiction
    have hbc : mulR b c ≠ [] := fun q => by rcases mulR_nil.mp q with q | q <;> contradiction
    have l1 : 0 < a.length := List.length_pos_iff.mpr ha
    have l2 : 0 < b.length := List.length_pos_iff.mpr hb
    have l3 : 0 < c.length := List.length_pos_iff.mpr hc
    refine ext_co (by rw [mulR_len hab hc, mulR_len ha hb, mulR_len ha hbc, mulR_len hb hc]; omega) fun k => ?_
    rw [co_mulR, co_mulR, cv_F, cvF_congr (fun k => co_mulR a b k) (fun _ => rfl), cvF_assoc]
    exact cv_congr (fun k => by rw [co_mulR, cv_F]) k
theorem cv_comm (a b : List Int) (k : Nat) : cv a (co b) k = cv b (co a) k := by
  induction a generalizing k with
  | nil => exact (cv_zero co_nil k).symm
  | cons x a ih =>
    have e : ∀ i, co (x :: a) i = x * co [1] i + sh (co a) i := fun i => by
      cases i with
      | zero => rw [co_cons0, co_cons0]; show x = x * 1 + 0; omega
      | succ i => rw [co_cons, co_cons, co_nil]; show co a i = x * 0 + co a i; omega
    have one : ∀ k, cv b (co [1]) k = co b k := fun k => by
      have : ∀ b : List Int, ∀ k, cv b (co [1]) k = co b k := fun b => by
        induction b with
        | nil => intro k; rw [cv_nil, co_nil]
        | cons y b ihb =>
          intro k
          rw [cv_cons]
          cases k with
          | zero => rw [co_cons0, co_cons0]; show y * 1 + 0 = y; omega
          | succ k => rw [co_cons, co_nil, co_cons]; show y * 0 + cv b (co [1]) k = _; rw [ihb]; omega
      exact this b k
    rw [cv_cons, cv_congr e, cv_addg, cv_mulg, cv_shg, one]
    congr 1
    cases k with
    | zero => rfl
    | succ k => exact ih k
theorem mulR_comm (a b : List Int) : mulR a b = mulR b a := by
  refine ext_co ?_ fun k => by rw [co_mulR, co_mulR, cv_comm]
  by_cases z : a = [] ∨ b = []
  · rw [mulR_nil.mpr z, mulR_nil.mpr z.symm]
  · rw [mulR_len (fun q => z (.inl q)) (fun q => z (.inr q)), mulR_len (fun q => z (.inr q)) (fun q => z (.inl q)), Nat.add_comm]
/-- the sum of two rows -/
def addR (a b : List Int) : List Int := (List.range (max a.length b.length)).map fun k => co a k + co b k
theorem addR_len (a b : List Int) : (addR a b).length = max a.length b.length := by unfold addR; simp
theorem co_addR (a b : List Int) (k : Nat) : co (addR a b) k = co a k + co b k := by
  unfold addR
  rw [co_range]
  split
  · rfl
  · rw [co_out (by omega), co_out (by omega)]; rfl
theorem addR_comm (a b : List Int) : addR a b = addR b a := ext_co (by rw [addR_len, addR_len, Nat.max_comm]) fun k => by rw [co_addR, co_addR, Int.add_comm]
theorem mulR_addR {a b c : List Int} (ha : a ≠ []) (hb : b ≠ []) (hc : c ≠ []) : addR (mulR a c) (mulR b c) = mulR (addR a b) c := by
  have l1 : 0 < a.length := List.length_pos_iff.mpr ha
  have l2 : 0 < b.length := List.length_pos_iff.mpr hb
  have l3 : 0 < c.length := List.length_pos_iff.mpr hc
  have hab : addR a b ≠ [] := fun z => by
    have := congrArg List.length z
    rw [addR_len, List.length_nil] at this; have := Nat.le_max_left a.length b.length; omega
  refine ext_co (by rw [addR_len, mulR_len ha hc, mulR_len hb hc, mulR_len hab hc, addR_len]; simp only [Nat.max_def]; split <;> split <;> omega) fun k => ?_
  rw [co_addR, co_mulR, co_mulR, co_mulR, cv_F, cv_F, cv_F, cvF_congr (fun k => co_addR a b k) (fun _ => rfl), cvF_add]
/-- a zero behind each number -/
def sprR : List Int → List Int
  | [] => []
  | x :: a => x :: 0 :: sprR a
theorem sprR_len (a : List Int) : (sprR a).length = 2 * a.length := by
  induction a with
  | nil => rfl
  | cons x a ih => rw [sprR, List.length_cons, List.length_cons, ih, List.length_cons]; omega
theorem sprR_app (a b : List Int) : sprR (a ++ b) = sprR a ++ sprR b := by
  induction a with
  | nil => rfl
  | cons x a ih => rw [List.cons_append, sprR, ih, sprR]; rfl
def dbl (f : Nat → Int) (k : Nat) : Int := if k % 2 = 0 then f (k / 2) else 0
theorem co_sprR (a : List Int) (k : Nat) : co (sprR a) k = dbl (co a) k := by
  induction a generalizing k with
  | nil => rw [sprR, co_nil]; unfold dbl; split <;> simp [co_nil]
  | cons x a ih =>
    rw [sprR]
    match k with
    | 0 => rw [co_cons0]; unfold dbl; rw [if_pos (by decide)]; exact (co_cons0 x a).symm
    | 1 => rw [co_cons, co_cons0]; unfold dbl; rw [if_neg (show ¬ (1 % 2 = 0) by decide)]
    | k + 2 =>
      rw [co_cons, co_cons, ih]
      unfold dbl
      have e1 : (k + 2) % 2 = k % 2 := by omega
      have e2 : (k + 2) / 2 = k / 2 + 1 := by omega
      rw [e1, e2, co_cons]
theorem cv_sprR (a : List Int) (g : Nat → Int) (k : Nat) : cv (sprR a) (dbl g) k = dbl (cv a g) k := by
  induction a generalizing k with
  | nil => rw [sprR, cv_nil]; unfold dbl; split <;> simp [cv_nil]
  | cons x a ih =>
    rw [sprR, cv_cons]
    match k with
    | 0 =>
      show x * dbl g 0 + 0 = dbl (cv (x :: a) g) 0
      unfold dbl
      rw [if_pos (by decide), if_pos (by decide), cv_cons]; rfl
    | 1 =>
      show x * dbl g 1 + cv (0 :: sprR a) (dbl g) 0 = dbl (cv (x :: a) g) 1
      rw [cv_cons]
      unfold dbl
      rw [if_neg (show ¬ (1 % 2 = 0) by decide), if_neg (show ¬ (1 % 2 = 0) by decide)]
      show x * 0 + (0 * _ + 0) = 0
      omega
    | k + 2 =>
      show x * dbl g (k + 2) + cv (0 :: sprR a) (dbl g) (k + 1) = _
      rw [cv_cons]
      show x * dbl g (k + 2) + (0 * _ + cv (sprR a) (dbl g) k) = _
      rw [ih]
      unfold dbl
      have e1 : (k + 2) % 2 = k % 2 := by omega
      have e2 : (k + 2) / 2 = k / 2 + 1 := by omega
      rw [e1, e2]
      split
      · rw [cv_cons]; show x * g (k / 2 + 1) + (0 * _ + _) = x * g (k / 2 + 1) + cv a g (k / 2); omega
      · omega
theorem mulR_sprR {a b : List Int} (ha : a ≠ []) (hb : b ≠ []) : mulR (sprR a) (sprR b) = sprR (mulR a b) ++ [0] := by
  have l1 : 0 < a.length := List.length_pos_iff.mpr ha
  have l2 : 0 < b.length := List.length_pos_iff.mpr hb
  have ha' : sprR a ≠ [] := fun z => by have := congrArg List.length z; rw [sprR_len, List.length_nil] at this; omega
  have hb' : sprR b ≠ [] := fun z => by have := congrArg List.length z; rw [sprR_len, List.length_nil] at this; omega
  refine ext_co (by rw [mulR_len ha' hb', sprR_len, sprR_len, List.length_append, sprR_len, mulR_len ha hb, List.length_singleton]; omega) fun k => ?_
  rw [co_mulR, cv_congr (fun k => co_sprR b k), cv_sprR, co_app, co_sprR]
  have e0 : shN (sprR (mulR a b)).length (co [0]) k = 0 := by
    unfold shN; split
    · generalize k - _ = j
      cases j with
      | zero => rfl
      | succ j => rw [co_cons, co_nil]
    · rfl
  rw [e0, Int.add_zero]
  unfold dbl; split
  · rw [co_mulR]
  · rfl
def powR (a : List Int) : Nat → List Int
  | 0 => [1]
  | n + 1 => mulR (powR a n) a
/-! sizes -/
theorem bd_co {k : Nat} {a : List Int} (h : Bd k a) (i : Nat) : (co a i).natAbs < 2 ^ k := h.get i
theorem sm_bd {n m : Nat} {f : Nat → Int} (h : ∀ i < n, (f i).natAbs ≤ m) : (sm n f).natAbs ≤ n * m := by
  induction n with
  | zero => simp [sm]
  | succ n ih =>
    have h1 := ih fun i hi => h i (by omega)
    have h2 := h n (by omega)
    rw [sm, Nat.succ_mul]
    have := Int.natAbs_add_le (sm n f) (f n)
    omega
theorem bd_mulR {i j L : Nat} {a b : List Int} (ha : Bd i a) (hb : Bd j b) (hl : a.length ≤ 2 ^ L) : Bd (L + (i + j)) (mulR a b) := by
  intro x hx
  by_cases z : a = [] ∨ b = []
  · rw [mulR_nil.mpr z] at hx; cases hx
  · unfold mulR at hx
    rw [if_neg z] at hx
    obtain ⟨k, _, rfl⟩ := List.mem_map.mp hx
    have hp : 0 < 2 ^ (i + j) := Nat.pow_pos (by decide)
    have h1 : (cv a (co b) k).natAbs ≤ a.length * (2 ^ (i + j) - 1) := sm_bd fun t _ => by
      rw [Int.natAbs_mul]
      have e1 := bd_co ha t
      have e2 : (shN t (co b) k).natAbs < 2 ^ j := by
        unfold shN; split
        · exact bd_co hb _
        · exact Nat.pow_pos (by decide)
      have := Nat.mul_lt_mul'' e1 e2
      rw [← Nat.pow_add] at this
      omega
    have h2 : a.length * (2 ^ (i + j) - 1) ≤ 2 ^ L * (2 ^ (i + j) - 1) := Nat.mul_le_mul_right _ hl
    have h3 : 2 ^ L * (2 ^ (i + j) - 1) < 2 ^ L * 2 ^ (i + j) := Nat.mul_lt_mul_of_pos_left (by omega) (Nat.pow_pos (by decide))
    rw [Nat.pow_add]
    omega
theorem bd_addR {i : Nat} {a b : List Int} (ha : Bd i a) (hb : Bd i b) : Bd (i + 1) (addR a b) := by
  intro x hx
  unfold addR at hx
  obtain ⟨k, _, rfl⟩ := List.mem_map.mp hx
  have e1 := bd_co ha k
  have e2 := bd_co hb k
  rw [Nat.pow_succ]
  omega
theorem bd_sprR {i : Nat} {a : List Int} (ha : Bd i a) : Bd i (sprR a) := by
  induction a with
  | nil => exact bd_nil
  | cons x a ih => exact bd_cons (ha x (List.mem_cons_self ..)) (bd_cons (by simp; exact Nat.pow_pos (by decide)) (ih fun j hj => ha j (List.mem_cons_of_mem _ hj)))
end PD

/-! The defs that make rows: product, sum_of, power, spread. -/
namespace PD
open PySem PySem.Spec PyProof.Rows L2
def prodI : S := S.seq (S.augi .add (E.var 2) (E.bin .add (E.var 3) (E.var 5)) (E.bin .mul (E.var 4) (E.var 6))) S.skip
def prodL : S := S.seq (S.loop (.tp [5, 6]) (E.enu (E.var 1) 0) prodI) S.skip
def prodB : S := (S.seq (S.ite (E.or (E.cmp .eq (E.var 0) (E.tup E.nil)) (E.one (E.cmp .eq (E.var 1) (E.tup E.nil)))) (S.seq (S.ret (E.tup E.nil)) S.skip) S.skip)
  (S.seq (S.set 2 (E.newl (E.bin .mul (E.lst (E.cons (E.cst (D.int 0)) E.nil)) (E.bin .sub (E.bin .add (E.bi .len (E.cons (E.var 0) E.nil)) (E.bi .len (E.cons (E.var 1) E.nil))) (E.cst (D.int 1))))))
  (S.seq (S.loop (.tp [3, 4]) (E.enu (E.var 0) 0) prodL) (S.seq (S.ret (E.bi .tuple (E.cons (E.var 2) E.nil))) S.skip))))
def prodF : Fn := { np := 2, ns := 7, body := prodB }
theorem range_set (n j : Nat) (F : Nat → Int) (v : Int) : ((List.range n).map F).set j v = (List.range n).map fun k => if k = j then v else F k := by
  refine List.ext_getElem (by simp) fun i h1 h2 => ?_
  simp at h1 h2
  rw [List.getElem_set]
  simp [eq_comm]
theorem shN_snoc (n : Nat) (q : List Int) (y : Int) (k : Nat) : shN n (co (q ++ [y])) k = shN n (co q) k + if k = n + q.length then y else 0 := by
  unfold shN
  by_cases h : n ≤ k
  · rw [if_pos h, if_pos h, co_app]
    congr 1
    unfold shN
    by_cases h2 : k = n + q.length
    · rw [if_pos (by omega), if_pos h2, show k - n - q.length = 0 by omega, co_cons0]
    · rw [if_neg h2]
      split
      · rw [show k - n - q.length = (k - n - q.length - 1) + 1 by omega, co_cons, co_nil]
      · rfl
  · rw [if_neg h, if_neg h, if_neg (by omega)]; rfl
theorem at_ok {a : List Int} {k : Nat} (h : k < a.length) : ixN a.length (k : Int) = some k ∧ (a.map D.int)[k]? = some (.int (co a k)) := by
  refine ⟨by rw [ixN_pos (by omega), Int.toNat_natCast], ?_⟩
  rw [List.getElem?_map, List.getElem?_eq_getElem h]
  unfold co
  rw [List.getD_eq_getElem?_getD, List.getElem?_eq_getElem h]; rfl
theorem set_int (a : List Int) (k : Nat) (v : Int) : (a.map D.int).set k (.int v) = (a.set k v).map D.int := by rw [List.map_set]
theorem wp_prod {fns : List Fn} {f : Nat} (hf : fns[f]? = some prodF) {k i : Nat} {a b : List Int} {st : Store} {Q : D → Store → Prop} (hl : a.length ≤ 400000 ∧ b.length ≤ 400000) (ha : Bd i a) (hb : Bd i b) (hi : i ≤ 400000)
    (hq : Q (.tup ((mulR a b).map D.int)) st) : Wp (callF fns (k + 1) f [.tup (a.map D.int), .tup (b.map D.int)] st) Q := by
  refine wp_call hf rfl ?_
  show Wp (ex _ prodB [some (.tup (a.map D.int)), some (.tup (b.map D.int)), none, none, none, none, none] st) (CallQ false _ Q)
  have no : (a = [] ∨ b = []) → Q (.tup []) st := fun z => by rw [mulR_nil.mpr z] at hq; exact hq
  (simp -failIfUnchanged -dsimp -implicitDefEqProofs only [↓PD.Wa, PD.Wb0, PD.Wb1, PD.Wb2, PD.Wb3, PD.Wb4, PD.Wb5, PD.lim, PD.smallI, List.getD_cons_zero, List.getD_cons_succ, List.flatten_cons, List.flatten_nil, PD.setMany, Int.toNat_natCast, List.getElem?_cons_zero, List.getElem?_cons_succ, List.set_cons_zero, List.set_cons_succ, List.length_cons, List.length_nil, List.length_map, List.length_append, List.length_reverse, List.length_replicate, List.length_range, List.nil_append, List.append_nil, List.cons_append, Nat.zero_add, Nat.add_zero, Bool.not_true, Bool.not_false, if_true, if_false, ite_true, ite_false, decide_true, decide_false, Bool.and_true, Bool.true_and, Bool.and_false, Bool.false_and, Option.toList_none, Option.toList_some, Option.bind_some, List.replicate_zero, List.replicate_succ, List.map_nil, List.map_cons, Nat.reduceSub, Nat.reduceAdd, Nat.reduceMul, Nat.reduceLeDiff, Nat.reduceLT, Nat.reduceEqDiff, Int.reduceLE, Int.reduceLT, Int.reduceNeg, Int.reduceMul, Int.reduceAdd, Int.reduceSub, Int.reducePow, Int.reduceToNat, Int.reduceEq, true_and, and_true, eq_self, Int.zero_add, Bool.false_eq_true, prodB]; repeat ((refine wp_must (by first | (simp only [Bool.and_eq_true, decide_eq_true_eq, List.length_map, List.length_append, List.length_replicate, List.length_cons, List.length_nil]; omega) | exact mulOk_r (by omega) (by omega) | exact mulOk_l (by omega) (by omega) | exact PD.divOk_of (by omega)) ?_); simp -failIfUnchanged -dsimp -implicitDefEqProofs only [↓PD.Wa, PD.Wb0, PD.Wb1, PD.Wb2, PD.Wb3, PD.Wb4, PD.Wb5, PD.lim, PD.smallI, List.getD_cons_zero, List.getD_cons_succ, List.flatten_cons, List.flatten_nil, PD.setMany, Int.toNat_natCast, List.getElem?_cons_zero, List.getElem?_cons_succ, List.set_cons_zero, List.set_cons_succ, List.length_cons, List.length_nil, List.length_map, List.length_append, List.length_reverse, List.length_replicate, List.length_range, List.nil_append, List.append_nil, List.cons_append, Nat.zero_add, Nat.add_zero, Bool.not_true, Bool.not_false, if_true, if_false, ite_true, ite_false, decide_true, decide_false, Bool.and_true, Bool.true_and, Bool.and_false, Bool.false_and, Option.toList_none, Option.toList_some, Option.bind_some, List.replicate_zero, List.replicate_succ, List.map_nil, List.map_cons, Nat.reduceSub, Nat.reduceAdd, Nat.reduceMul, Nat.reduceLeDiff, Nat.reduceLT, Nat.reduceEqDiff, Int.reduceLE, Int.reduceLT, Int.reduceNeg, Int.reduceMul, Int.reduceAdd, Int.reduceSub, Int.reducePow, Int.reduceToNat, Int.reduceEq, true_and, and_true, eq_self, Int.zero_add, Bool.false_eq_true, prodB]))
  refine wp_sel (fun h0 => ?_) fun h0 => ?_
  · (simp -failIfUnchanged -dsimp -implicitDefEqProofs only [↓PD.Wa, PD.Wb0, PD.Wb1, PD.Wb2, PD.Wb3, PD.Wb4, PD.Wb5, PD.lim, PD.smallI, List.getD_cons_zero, List.getD_cons_succ, List.flatten_cons, List.flatten_nil, PD.setMany, Int.toNat_natCast, List.getElem?_cons_zero, List.getElem?_cons_succ, List.set_cons_zero, List.set_cons_succ, List.length_cons, List.length_nil, List.length_map, List.length_append, List.length_reverse, List.length_replicate, List.length_range, List.nil_append, List.append_nil, List.cons_append, Nat.zero_add, Nat.add_zero, Bool.not_true, Bool.not_false, if_true, if_false, ite_true, ite_false, decide_true, decide_false, Bool.and_true, Bool.true_and, Bool.and_false, Bool.false_and, Option.toList_none, Option.toList_some, Option.bind_some, List.replicate_zero, List.replicate_succ, List.map_nil, List.map_cons, Nat.reduceSub, Nat.reduceAdd, Nat.reduceMul, Nat.reduceLeDiff, Nat.reduceLT, Nat.reduceEqDiff, Int.reduceLE, Int.reduceLT, Int.reduceNeg, Int.reduceMul, Int.reduceAdd, Int.reduceSub, Int.reducePow, Int.reduceToNat, Int.reduceEq, true_and, and_true, eq_self, Int.zero_add, Bool.false_eq_true, h0]; repeat ((refine wp_must (by first | (simp only [Bool.and_eq_true, decide_eq_true_eq, List.length_map, List.length_append, List.length_replicate, List.length_cons, List.length_nil]; omega) | exact mulOk_r (by omega) (by omega) | exact mulOk_l (by omega) (by omega) | exact PD.divOk_of (by omega)) ?_); simp -failIfUnchanged -dsimp -implicitDefEqProofs only [↓PD.Wa, PD.Wb0, PD.Wb1, PD.Wb2, PD.Wb3, PD.Wb4, PD.Wb5, PD.lim, PD.smallI, List.getD_cons_zero, List.getD_cons_succ, List.flatten_cons, List.flatten_nil, PD.setMany, Int.toNat_natCast, List.getElem?_cons_zero, List.getElem?_cons_succ, List.set_cons_zero, List.set_cons_succ, List.length_cons, List.length_nil, List.length_map, List.length_append, List.length_reverse, List.length_replicate, List.length_range, List.nil_append, List.append_nil, List.cons_append, Nat.zero_add, Nat.add_zero, Bool.not_true, Bool.not_false, if_true, if_false, ite_true, ite_false, decide_true, decide_false, Bool.and_true, Bool.true_and, Bool.and_false, Bool.false_and, Option.toList_none, Option.toList_some, Option.bind_some, List.replicate_zero, List.replicate_succ, List.map_nil, List.map_cons, Nat.reduceSub, Nat.reduceAdd, Nat.reduceMul, Nat.reduceLeDiff, Nat.reduceLT, Nat.reduceEqDiff, Int.reduceLE, Int.reduceLT, Int.reduceNeg, Int.reduceMul, Int.reduceAdd, Int.reduceSub, Int.reducePow, Int.reduceToNat, Int.reduceEq, true_and, and_true, eq_self, Int.zero_add, Bool.false_eq_true, h0]))
    exact no (.inl (of_decide_eq_true h0))
  have h0 : a ≠ [] := of_decide_eq_false h0
  (simp -failIfUnchanged -dsimp -implicitDefEqProofs only [↓PD.Wa, PD.Wb0, PD.Wb1, PD.Wb2, PD.Wb3, PD.Wb4, PD.Wb5, PD.lim, PD.smallI, List.getD_cons_zero, List.getD_cons_succ, List.flatten_cons, List.flatten_nil, PD.setMany, Int.toNat_natCast, List.getElem?_cons_zero, List.getElem?_cons_succ, List.set_cons_zero, List.set_cons_succ, List.length_cons, List.length_nil, List.length_map, List.length_append, List.length_reverse, List.length_replicate, List.length_range, List.nil_append, List.append_nil, List.cons_append, Nat.zero_add, Nat.add_zero, Bool.not_true, Bool.not_false, if_true, if_false, ite_true, ite_false, decide_true, decide_false, Bool.and_true, Bool.true_and, Bool.and_false, Bool.false_and, Option.toList_none, Option.toList_some, Option.bind_some, List.replicate_zero, List.replicate_succ, List.map_nil, List.map_cons, Nat.reduceSub, Nat.reduceAdd, Nat.reduceMul, Nat.reduceLeDiff, Nat.reduceLT, Nat.reduceEqDiff, Int.reduceLE, Int.reduceLT, Int.reduceNeg, Int.reduceMul, Int.reduceAdd, Int.reduceSub, Int.reducePow, Int.reduceToNat, Int.reduceEq, true_and, and_true, eq_self, Int.zero_add, Bool.false_eq_true]; repeat ((refine wp_must (by first | (simp only [Bool.and_eq_true, decide_eq_true_eq, List.length_map, List.length_append, List.length_replicate, List.length_cons, List.length_nil]; omega) | exact mulOk_r (by omega) (by omega) | exact mulOk_l (by omega) (by omega) | exact PD.divOk_of (by omega)) ?_); simp -failIfUnchanged -dsimp -implicitDefEqProofs only [↓PD.Wa, PD.Wb0, PD.Wb1, PD.Wb2, PD.Wb3, PD.Wb4, PD.Wb5, PD.lim, PD.smallI, List.getD_cons_zero, List.getD_cons_succ, List.flatten_cons, List.flatten_nil, PD.setMany, Int.toNat_natCast, List.getElem?_cons_zero, List.getElem?_cons_succ, List.set_cons_zero, List.set_cons_succ, List.length_cons, List.length_nil, List.length_map, List.length_append, List.length_reverse, List.length_replicate, List.length_range, List.nil_append, List.append_nil, List.cons_append, Nat.zero_add, Nat.add_zero, Bool.not_true, Bool.not_false, if_true, if_false, ite_true, ite_false, decide_true, decide_false, Bool.and_true, Bool.true_and, Bool.and_false, Bool.false_and, Option.toList_none, Option.toList_some, Option.bind_some, List.replicate_zero, List.replicate_succ, List.map_nil, List.map_cons, Nat.reduceSub, Nat.reduceAdd, Nat.reduceMul, Nat.reduceLeDiff, Nat.reduceLT, Nat.reduceEqDiff, Int.reduceLE, Int.reduceLT, Int.reduceNeg, Int.reduceMul, Int.reduceAdd, Int.reduceSub, Int.reducePow, Int.reduceToNat, Int.reduceEq, true_and, and_true, eq_self, Int.zero_add, Bool.false_eq_true]))
  refine wp_sel (fun h1 => ?_) fun h1 => ?_
  · (simp -failIfUnchanged -dsimp -implicitDefEqProofs only [↓PD.Wa, PD.Wb0, PD.Wb1, PD.Wb2, PD.Wb3, PD.Wb4, PD.Wb5, PD.lim, PD.smallI, List.getD_cons_zero, List.getD_cons_succ, List.flatten_cons, List.flatten_nil, PD.setMany, Int.toNat_natCast, List.getElem?_cons_zero, List.getElem?_cons_succ, List.set_cons_zero, List.set_cons_succ, List.length_cons, List.length_nil, List.length_map, List.length_append, List.length_reverse, List.length_replicate, List.length_range, List.nil_append, List.append_nil, List.cons_append, Nat.zero_add, Nat.add_zero, Bool.not_true, Bool.not_false, if_true, if_false, ite_true, ite_false, decide_true, decide_false, Bool.and_true, Bool.true_and, Bool.and_false, Bool.false_and, Option.toList_none, Option.toList_some, Option.bind_some, List.replicate_zero, List.replicate_succ, List.map_nil, List.map_cons, Nat.reduceSub, Nat.reduceAdd, Nat.reduceMul, Nat.reduceLeDiff, Nat.reduceLT, Nat.reduceEqDiff, Int.reduceLE, Int.reduceLT, Int.reduceNeg, Int.reduceMul, Int.reduceAdd, Int.reduceSub, Int.reducePow, Int.reduceToNat, Int.reduceEq, true_and, and_true, eq_self, Int.zero_add, Bool.false_eq_true, h1]; repeat ((refine wp_must (by first | (simp only [Bool.and_eq_true, decide_eq_true_eq, List.length_map, List.length_append, List.length_replicate, List.length_cons, List.length_nil]; omega) | exact mulOk_r (by omega) (by omega) | exact mulOk_l (by omega) (by omega) | exact PD.divOk_of (by omega)) ?_); simp -failIfUnchanged -dsimp -implicitDefEqProofs only [↓PD.Wa, PD.Wb0, PD.Wb1, PD.Wb2, PD.Wb3, PD.Wb4, PD.Wb5, PD.lim, PD.smallI, List.getD_cons_zero, List.getD_cons_succ, List.flatten_cons, List.flatten_nil, PD.setMany, Int.toNat_natCast, List.getElem?_cons_zero, List.getElem?_cons_succ, List.set_cons_zero, List.set_cons_succ, List.length_cons, List.length_nil, List.length_map, List.length_append, List.length_reverse, List.length_replicate, List.length_range, List.nil_append, List.append_nil, List.cons_append, Nat.zero_add, Nat.add_zero, Bool.not_true, Bool.not_false, if_true, if_false, ite_true, ite_false, decide_true, decide_false, Bool.and_true, Bool.true_and, Bool.and_false, Bool.false_and, Option.toList_none, Option.toList_some, Option.bind_some, List.replicate_zero, List.replicate_succ, List.map_nil, List.map_cons, Nat.reduceSub, Nat.reduceAdd, Nat.reduceMul, Nat.reduceLeDiff, Nat.reduceLT, Nat.reduceEqDiff, Int.reduceLE, Int.reduceLT, Int.reduceNeg, Int.reduceMul, Int.reduceAdd, Int.reduceSub, Int.reducePow, Int.reduceToNat, Int.reduceEq, true_and, and_true, eq_self, Int.zero_add, Bool.false_eq_true, h1]))
    exact no (.inr (of_decide_eq_true h1))
  have h1 : b ≠ [] := of_decide_eq_false h1
  have l1 : 0 < a.length := List.length_pos_iff.mpr h0
  have l2 : 0 < b.length := List.length_pos_iff.mpr h1
  (simp -failIfUnchanged -dsimp -implicitDefEqProofs only [↓PD.Wa, PD.Wb0, PD.Wb1, PD.Wb2, PD.Wb3, PD.Wb4, PD.Wb5, PD.lim, PD.smallI, List.getD_cons_zero, List.getD_cons_succ, List.flatten_cons, List.flatten_nil, PD.setMany, Int.toNat_natCast, List.getElem?_cons_zero, List.getElem?_cons_succ, List.set_cons_zero, List.set_cons_succ, List.length_cons, List.length_nil, List.length_map, List.length_append, List.length_reverse, List.length_replicate, List.length_range, List.nil_append, List.append_nil, List.cons_append, Nat.zero_add, Nat.add_zero, Bool.not_true, Bool.not_false, if_true, if_false, ite_true, ite_false, decide_true, decide_false, Bool.and_true, Bool.true_and, Bool.and_false, Bool.false_and, Option.toList_none, Option.toList_some, Option.bind_some, List.replicate_zero, List.replicate_succ, List.map_nil, List.map_cons, Nat.reduceSub, Nat.reduceAdd, Nat.reduceMul, Nat.reduceLeDiff, Nat.reduceLT, Nat.reduceEqDiff, Int.reduceLE, Int.reduceLT, Int.reduceNeg, Int.reduceMul, Int.reduceAdd, Int.reduceSub, Int.reducePow, Int.reduceToNat, Int.reduceEq, true_and, and_true, eq_self, Int.zero_add, Bool.false_eq_true, zer_flat]; repeat ((refine wp_must (by first | (simp only [Bool.and_eq_true, decide_eq_true_eq, List.length_map, List.length_append, List.length_replicate, List.length_cons, List.length_nil]; omega) | exact mulOk_r (by omega) (by omega) | exact mulOk_l (by omega) (by omega) | exact PD.divOk_of (by omega)) ?_); simp -failIfUnchanged -dsimp -implicitDefEqProofs only [↓PD.Wa, PD.Wb0, PD.Wb1, PD.Wb2, PD.Wb3, PD.Wb4, PD.Wb5, PD.lim, PD.smallI, List.getD_cons_zero, List.getD_cons_succ, List.flatten_cons, List.flatten_nil, PD.setMany, Int.toNat_natCast, List.getElem?_cons_zero, List.getElem?_cons_succ, List.set_cons_zero, List.set_cons_succ, List.length_cons, List.length_nil, List.length_map, List.length_append, List.length_reverse, List.length_replicate, List.length_range, List.nil_append, List.append_nil, List.cons_append, Nat.zero_add, Nat.add_zero, Bool.not_true, Bool.not_false, if_true, if_false, ite_true, ite_false, decide_true, decide_false, Bool.and_true, Bool.true_and, Bool.and_false, Bool.false_and, Option.toList_none, Option.toList_some, Option.bind_some, List.replicate_zero, List.replicate_succ, List.map_nil, List.map_cons, Nat.reduceSub, Nat.reduceAdd, Nat.reduceMul, Nat.reduceLeDiff, Nat.reduceLT, Nat.reduceEqDiff, Int.reduceLE, Int.reduceLT, Int.reduceNeg, Int.reduceMul, Int.reduceAdd, Int.reduceSub, Int.reducePow, Int.reduceToNat, Int.reduceEq, true_and, and_true, eq_self, Int.zero_add, Bool.false_eq_true, zer_flat]))
  generalize en : ((a.length : Int) + (b.length : Int) - 1).toNat = n
  have hn : n = a.length + b.length - 1 := by omega
  refine wp_forE D.int a [3, 4, 5, 6] [none, none, none, none] (fun p vs s => ∃ x y z w, vs = [x, y, z, w] ∧ s = st ++ [.lst (((List.range n).map (cv p (co b))).map D.int)]) rfl rfl ⟨none, none, none, none, rfl, ?_⟩ ?_ ?_
  · congr 4
    refine List.ext_getElem (by simp) fun i h1 h2 => ?_
    simp; rfl
  · rintro p x r vs s hp ⟨y1, y2, y3, y4, rfl, rfl⟩
    have lp : p.length < a.length := by rw [hp, List.length_append, List.length_cons]; omega
    have hx : x ∈ a := by rw [hp]; simp
    (simp -failIfUnchanged -dsimp -implicitDefEqProofs only [↓PD.Wa, PD.Wb0, PD.Wb1, PD.Wb2, PD.Wb3, PD.Wb4, PD.Wb5, PD.lim, PD.smallI, List.getD_cons_zero, List.getD_cons_succ, List.flatten_cons, List.flatten_nil, PD.setMany, Int.toNat_natCast, List.getElem?_cons_zero, List.getElem?_cons_succ, List.set_cons_zero, List.set_cons_succ, List.length_cons, List.length_nil, List.length_map, List.length_append, List.length_reverse, List.length_replicate, List.length_range, List.nil_append, List.append_nil, List.cons_append, Nat.zero_add, Nat.add_zero, Bool.not_true, Bool.not_false, if_true, if_false, ite_true, ite_false, decide_true, decide_false, Bool.and_true, Bool.true_and, Bool.and_false, Bool.false_and, Option.toList_none, Option.toList_some, Option.bind_some, List.replicate_zero, List.replicate_succ, List.map_nil, List.map_cons, Nat.reduceSub, Nat.reduceAdd, Nat.reduceMul, Nat.reduceLeDiff, Nat.reduceLT, Nat.reduceEqDiff, Int.reduceLE, Int.reduceLT, Int.reduceNeg, Int.reduceMul, Int.reduceAdd, Int.reduceSub, Int.reducePow, Int.reduceToNat, Int.reduceEq, true_and, and_true, eq_self, Int.zero_add, Bool.false_eq_true, prodL]; repeat ((refine wp_must (by first | (simp only [Bool.and_eq_true, decide_eq_true_eq, List.length_map, List.length_append, List.length_replicate, List.length_cons, List.length_nil]; omega) | exact mulOk_r (by omega) (by omega) | exact mulOk_l (by omega) (by omega) | exact PD.divOk_of (by omega)) ?_); simp -failIfUnchanged -dsimp -implicitDefEqProofs only [↓PD.Wa, PD.Wb0, PD.Wb1, PD.Wb2, PD.Wb3, PD.Wb4, PD.Wb5, PD.lim, PD.smallI, List.getD_cons_zero, List.getD_cons_succ, List.flatten_cons, List.flatten_nil, PD.setMany, Int.toNat_natCast, List.getElem?_cons_zero, List.getElem?_cons_succ, List.set_cons_zero, List.set_cons_succ, List.length_cons, List.length_nil, List.length_map, List.length_append, List.length_reverse, List.length_replicate, List.length_range, List.nil_append, List.append_nil, List.cons_append, Nat.zero_add, Nat.add_zero, Bool.not_true, Bool.not_false, if_true, if_false, ite_true, ite_false, decide_true, decide_false, Bool.and_true, Bool.true_and, Bool.and_false, Bool.false_and, Option.toList_none, Option.toList_some, Option.bind_some, List.replicate_zero, List.replicate_succ, List.map_nil, List.map_cons, Nat.reduceSub, Nat.reduceAdd, Nat.reduceMul, Nat.reduceLeDiff, Nat.reduceLT, Nat.reduceEqDiff, Int.reduceLE, Int.reduceLT, Int.reduceNeg, Int.reduceMul, Int.reduceAdd, Int.reduceSub, Int.reducePow, Int.reduceToNat, Int.reduceEq, true_and, and_true, eq_self, Int.zero_add, Bool.false_eq_true, prodL]))
    refine wp_forE D.int b [5, 6] [_, _] (fun q vs s => ∃ z w, vs = [z, w] ∧ s = st ++ [.lst (((List.range n).map fun k => cv p (co b) k + x * shN p.length (co q) k).map D.int)]) rfl rfl ⟨y3, y4, rfl, ?_⟩ ?_ ?_
    · congr 4
      refine List.map_congr_left fun k _ => ?_
      have : shN p.length (co []) k = 0 := by unfold shN; split <;> simp [co_nil]
      rw [this]; omega
    · rintro q y r' vs s hq' ⟨y5, y6, rfl, rfl⟩
      have lq : q.length < b.length := by rw [hq', List.length_append, List.length_cons]; omega
      have hy : y ∈ b := by rw [hq']; simp
      generalize eF : (fun k => cv p (co b) k + x * shN p.length (co q) k) = F
      have hk : p.length + q.length < ((List.range n).map F).length := by simp; omega
      obtain ⟨i1, i2⟩ := at_ok hk
      rw [List.length_map, List.length_range] at i1
      have ec : co ((List.range n).map F) (p.length + q.length) = F (p.length + q.length) := by rw [co_range, if_pos (by omega)]
      rw [ec] at i2
      have em : ((p.length : Int) + (q.length : Int)) = ((p.length + q.length : Nat) : Int) := by push_cast; rfl
      have mo := mulOk_Bd (ha x hx) (hb y hy) hi
      (simp -failIfUnchanged -dsimp -implicitDefEqProofs only [↓PD.Wa, PD.Wb0, PD.Wb1, PD.Wb2, PD.Wb3, PD.Wb4, PD.Wb5, PD.lim, PD.smallI, List.getD_cons_zero, List.getD_cons_succ, List.flatten_cons, List.flatten_nil, PD.setMany, Int.toNat_natCast, List.getElem?_cons_zero, List.getElem?_cons_succ, List.set_cons_zero, List.set_cons_succ, List.length_cons, List.length_nil, List.length_map, List.length_append, List.length_reverse, List.length_replicate, List.length_range, List.nil_append, List.append_nil, List.cons_append, Nat.zero_add, Nat.add_zero, Bool.not_true, Bool.not_false, if_true, if_false, ite_true, ite_false, decide_true, decide_false, Bool.and_true, Bool.true_and, Bool.and_false, Bool.false_and, Option.toList_none, Option.toList_some, Option.bind_some, List.replicate_zero, List.replicate_succ, List.map_nil, List.map_cons, Nat.reduceSub, Nat.reduceAdd, Nat.reduceMul, Nat.reduceLeDiff, Nat.reduceLT, Nat.reduceEqDiff, Int.reduceLE, Int.reduceLT, Int.reduceNeg, Int.reduceMul, Int.reduceAdd, Int.reduceSub, Int.reducePow, Int.reduceToNat, Int.reduceEq, true_and, and_true, eq_self, Int.zero_add, Bool.false_eq_true, prodI, em, i1, i2, mo, set_int, List.set_cons_zero]; repeat ((refine wp_must (by first | (simp only [Bool.and_eq_true, decide_eq_true_eq, List.length_map, List.length_append, List.length_replicate, List.length_cons, List.length_nil]; omega) | exact mulOk_r (by omega) (by omega) | exact mulOk_l (by omega) (by omega) | exact PD.divOk_of (by omega)) ?_); simp -failIfUnchanged -dsimp -implicitDefEqProofs only [↓PD.Wa, PD.Wb0, PD.Wb1, PD.Wb2, PD.Wb3, PD.Wb4, PD.Wb5, PD.lim, PD.smallI, List.getD_cons_zero, List.getD_cons_succ, List.flatten_cons, List.flatten_nil, PD.setMany, Int.toNat_natCast, List.getElem?_cons_zero, List.getElem?_cons_succ, List.set_cons_zero, List.set_cons_succ, List.length_cons, List.length_nil, List.length_map, List.length_append, List.length_reverse, List.length_replicate, List.length_range, List.nil_append, List.append_nil, List.cons_append, Nat.zero_add, Nat.add_zero, Bool.not_true, Bool.not_false, if_true, if_false, ite_true, ite_false, decide_true, decide_false, Bool.and_true, Bool.true_and, Bool.and_false, Bool.false_and, Option.toList_none, Option.toList_some, Option.bind_some, List.replicate_zero, List.replicate_succ, List.map_nil, List.map_cons, Nat.reduceSub, Nat.reduceAdd, Nat.reduceMul, Nat.reduceLeDiff, Nat.reduceLT, Nat.reduceEqDiff, Int.reduceLE, Int.reduceLT, Int.reduceNeg, Int.reduceMul, Int.reduceAdd, Int.reduceSub, Int.reducePow, Int.reduceToNat, Int.reduceEq, true_and, and_true, eq_self, Int.zero_add, Bool.false_eq_true, prodI, em, i1, i2, mo, set_int, List.set_cons_zero]))
      rw [range_set]
      refine ⟨[_, _], rfl, _, _, rfl, ?_⟩
      congr 4
      refine List.map_congr_left fun k _ => ?_
      subst eF
      show (if k = p.length + q.length then _ else _) = _
      rw [shN_snoc, Int.mul_add, ← Int.add_assoc]
      split
      · rename_i e; subst e; rfl
      · rw [Int.mul_zero, Int.add_zero]
    · rintro vs s ⟨y5, y6, rfl, rfl⟩
      (simp -failIfUnchanged -dsimp -implicitDefEqProofs only [↓PD.Wa, PD.Wb0, PD.Wb1, PD.Wb2, PD.Wb3, PD.Wb4, PD.Wb5, PD.lim, PD.smallI, List.getD_cons_zero, List.getD_cons_succ, List.flatten_cons, List.flatten_nil, PD.setMany, Int.toNat_natCast, List.getElem?_cons_zero, List.getElem?_cons_succ, List.set_cons_zero, List.set_cons_succ, List.length_cons, List.length_nil, List.length_map, List.length_append, List.length_reverse, List.length_replicate, List.length_range, List.nil_append, List.append_nil, List.cons_append, Nat.zero_add, Nat.add_zero, Bool.not_true, Bool.not_false, if_true, if_false, ite_true, ite_false, decide_true, decide_false, Bool.and_true, Bool.true_and, Bool.and_false, Bool.false_and, Option.toList_none, Option.toList_some, Option.bind_some, List.replicate_zero, List.replicate_succ, List.map_nil, List.map_cons, Nat.reduceSub, Nat.reduceAdd, Nat.reduceMul, Nat.reduceLeDiff, Nat.reduceLT, Nat.reduceEqDiff, Int.reduceLE, Int.reduceLT, Int.reduceNeg, Int.reduceMul, Int.reduceAdd, Int.reduceSub, Int.reducePow, Int.reduceToNat, Int.reduceEq, true_and, and_true, eq_self, Int.zero_add, Bool.false_eq_true]; repeat ((refine wp_must (by first | (simp only [Bool.and_eq_true, decide_eq_true_eq, List.length_map, List.length_append, List.length_replicate, List.length_cons, List.length_nil]; omega) | exact mulOk_r (by omega) (by omega) | exact mulOk_l (by omega) (by omega) | exact PD.divOk_of (by omega)) ?_); simp -failIfUnchanged -dsimp -implicitDefEqProofs only [↓PD.Wa, PD.Wb0, PD.Wb1, PD.Wb2, PD.Wb3, PD.Wb4, PD.Wb5, PD.lim, PD.smallI, List.getD_cons_zero, List.getD_cons_succ, List.flatten_cons, List.flatten_nil, PD.setMany, Int.toNat_natCast, List.getElem?_cons_zero, List.getElem?_cons_succ, List.set_cons_zero, List.set_cons_succ, List.length_cons, List.length_nil, List.length_map, List.length_append, List.length_reverse, List.length_replicate, List.length_range, List.nil_append, List.append_nil, List.cons_append, Nat.zero_add, Nat.add_zero, Bool.not_true, Bool.not_false, if_true, if_false, ite_true, ite_false, decide_true, decide_false, Bool.and_true, Bool.true_and, Bool.and_false, Bool.false_and, Option.toList_none, Option.toList_some, Option.bind_some, List.replicate_zero, List.replicate_succ, List.map_nil, List.map_cons, Nat.reduceSub, Nat.reduceAdd, Nat.reduceMul, Nat.reduceLeDiff, Nat.reduceLT, Nat.reduceEqDiff, Int.reduceLE, Int.reduceLT, Int.reduceNeg, Int.reduceMul, Int.reduceAdd, Int.reduceSub, Int.reducePow, Int.reduceToNat, Int.reduceEq, true_and, and_true, eq_self, Int.zero_add, Bool.false_eq_true]))
      refine ⟨[_, _, _, _], rfl, _, _, _, _, rfl, ?_⟩
      congr 4
      refine List.map_congr_left fun k _ => ?_
      rw [cv_snoc]
  · rintro vs s ⟨y1, y2, y3, y4, rfl, rfl⟩
    (simp -failIfUnchanged -dsimp -implicitDefEqProofs only [↓PD.Wa, PD.Wb0, PD.Wb1, PD.Wb2, PD.Wb3, PD.Wb4, PD.Wb5, PD.lim, PD.smallI, List.getD_cons_zero, List.getD_cons_succ, List.flatten_cons, List.flatten_nil, PD.setMany, Int.toNat_natCast, List.getElem?_cons_zero, List.getElem?_cons_succ, List.set_cons_zero, List.set_cons_succ, List.length_cons, List.length_nil, List.length_map, List.length_append, List.length_reverse, List.length_replicate, List.length_range, List.nil_append, List.append_nil, List.cons_append, Nat.zero_add, Nat.add_zero, Bool.not_true, Bool.not_false, if_true, if_false, ite_true, ite_false, decide_true, decide_false, Bool.and_true, Bool.true_and, Bool.and_false, Bool.false_and, Option.toList_none, Option.toList_some, Option.bind_some, List.replicate_zero, List.replicate_succ, List.map_nil, List.map_cons, Nat.reduceSub, Nat.reduceAdd, Nat.reduceMul, Nat.reduceLeDiff, Nat.reduceLT, Nat.reduceEqDiff, Int.reduceLE, Int.reduceLT, Int.reduceNeg, Int.reduceMul, Int.reduceAdd, Int.reduceSub, Int.reducePow, Int.reduceToNat, Int.reduceEq, true_and, and_true, eq_self, Int.zero_add, Bool.false_eq_true]; repeat ((refine wp_must (by first | (simp only [Bool.and_eq_true, decide_eq_true_eq, List.length_map, List.length_append, List.length_replicate, List.length_cons, List.length_nil]; omega) | exact mulOk_r (by omega) (by omega) | exact mulOk_l (by omega) (by omega) | exact PD.divOk_of (by omega)) ?_); simp -failIfUnchanged -dsimp -implicitDefEqProofs only [↓PD.Wa, PD.Wb0, PD.Wb1, PD.Wb2, PD.Wb3, PD.Wb4, PD.Wb5, PD.lim, PD.smallI, List.getD_cons_zero, List.getD_cons_succ, List.flatten_cons, List.flatten_nil, PD.setMany, Int.toNat_natCast, List.getElem?_cons_zero, List.getElem?_cons_succ, List.set_cons_zero, List.set_cons_succ, List.length_cons, List.length_nil, List.length_map, List.length_append, List.length_reverse, List.length_replicate, List.length_range, List.nil_append, List.append_nil, List.cons_append, Nat.zero_add, Nat.add_zero, Bool.not_true, Bool.not_false, if_true, if_false, ite_true, ite_false, decide_true, decide_false, Bool.and_true, Bool.true_and, Bool.and_false, Bool.false_and, Option.toList_none, Option.toList_some, Option.bind_some, List.replicate_zero, List.replicate_succ, List.map_nil, List.map_cons, Nat.reduceSub, Nat.reduceAdd, Nat.reduceMul, Nat.reduceLeDiff, Nat.reduceLT, Nat.reduceEqDiff, Int.reduceLE, Int.reduceLT, Int.reduceNeg, Int.reduceMul, Int.reduceAdd, Int.reduceSub, Int.reducePow, Int.reduceToNat, Int.reduceEq, true_and, and_true, eq_self, Int.zero_add, Bool.false_eq_true]))
    rw [end_own (by rw [bare_tup]; exact bare_ints _)]
    have : (List.range n).map (cv a (co b)) = mulR a b := by unfold mulR; rw [if_neg (by simp [h0, h1]), hn]
    rw [this]
    exact hq
def sumB : S := (S.seq (S.unp [3, 4] (E.ite (E.cmp .gt (E.bi .len (E.cons (E.var 0) E.nil)) (E.bi .len (E.cons (E.var 1) E.nil))) (E.tup (E.cons (E.var 0) (E.cons (E.var 1) E.nil))) (E.tup (E.cons (E.var 1) (E.cons (E.var 0) E.nil)))))
  (S.seq (S.set 2 (E.slc (E.var 3) true (E.bi .len (E.cons (E.var 4) E.nil)) false E.nil))
  (S.seq (S.ret (E.tup (E.star (E.comp (E.bin .add (E.var 5) (E.var 6)) (.tp [5, 6]) (E.zip (E.var 3) (E.var 4)) (E.cst (D.bl true)) [5, 6]) (E.star (E.var 2) E.nil)))) S.skip)))
def sumF : Fn := { np := 2, ns := 7, body := sumB }
theorem sum_is {a b : List Int} (h : b.length ≤ a.length) : (List.range (min a.length b.length)).map (fun k => a.getD k 0 + b.getD k 0) ++ a.drop b.length = addR a b := by
  refine ext_co (by rw [addR_len]; simp; omega) fun k => ?_
  rw [co_app, co_addR, co_range, List.length_map, List.length_range]
  have e : min a.length b.length = b.length := by omega
  rw [e]
  unfold shN
  by_cases hk : k < b.length
  · rw [if_pos hk, if_neg (by omega), Int.add_zero]; rfl
  · rw [if_neg hk, if_pos (by omega), co_out (a := b) (by omega), Int.add_zero, Int.zero_add]
    unfold co
    rw [List.getD_eq_getElem?_getD, List.getD_eq_getElem?_getD, List.getElem?_drop, show b.length + (k - b.length) = k by omega]
theorem wp_sum {fns : List Fn} {f : Nat} (hf : fns[f]? = some sumF) {k : Nat} {a b : List Int} {st : Store} {Q : D → Store → Prop} (hl : a.length ≤ 400000 ∧ b.length ≤ 400000)
    (hq : Q (.tup ((addR a b).map D.int)) st) : Wp (callF fns (k + 1) f [.tup (a.map D.int), .tup (b.map D.int)] st) Q := by
  refine wp_call hf rfl ?_
  show Wp (ex _ sumB [some (.tup (a.map D.int)), some (.tup (b.map D.int)), none, none, none, none, none] st) (CallQ false _ Q)
  (simp -failIfUnchanged -dsimp -implicitDefEqProofs only [↓PD.Wa, PD.Wb0, PD.Wb1, PD.Wb2, PD.Wb3, PD.Wb4, PD.Wb5, PD.lim, PD.smallI, List.getD_cons_zero, List.getD_cons_succ, List.flatten_cons, List.flatten_nil, PD.setMany, Int.toNat_natCast, List.getElem?_cons_zero, List.getElem?_cons_succ, List.set_cons_zero, List.set_cons_succ, List.length_cons, List.length_nil, List.length_map, List.length_append, List.length_reverse, List.length_replicate, List.length_range, List.nil_append, List.append_nil, List.cons_append, Nat.zero_add, Nat.add_zero, Bool.not_true, Bool.not_false, if_true, if_false, ite_true, ite_false, decide_true, decide_false, Bool.and_true, Bool.true_and, Bool.and_false, Bool.false_and, Option.toList_none, Option.toList_some, Option.bind_some, List.replicate_zero, List.replicate_succ, List.map_nil, List.map_cons, Nat.reduceSub, Nat.reduceAdd, Nat.reduceMul, Nat.reduceLeDiff, Nat.reduceLT, Nat.reduceEqDiff, Int.reduceLE, Int.reduceLT, Int.reduceNeg, Int.reduceMul, Int.reduceAdd, Int.reduceSub, Int.reducePow, Int.reduceToNat, Int.reduceEq, true_and, and_true, eq_self, Int.zero_add, Bool.false_eq_true, sumB]; repeat ((refine wp_must (by first | (simp only [Bool.and_eq_true, decide_eq_true_eq, List.length_map, List.length_append, List.length_replicate, List.length_cons, List.length_nil]; omega) | exact mulOk_r (by omega) (by omega) | exact mulOk_l (by omega) (by omega) | exact PD.divOk_of (by omega)) ?_); simp -failIfUnchanged -dsimp -implicitDefEqProofs only [↓PD.Wa, PD.Wb0, PD.Wb1, PD.Wb2, PD.Wb3, PD.Wb4, PD.Wb5, PD.lim, PD.smallI, List.getD_cons_zero, List.getD_cons_succ, List.flatten_cons, List.flatten_nil, PD.setMany, Int.toNat_natCast, List.getElem?_cons_zero, List.getElem?_cons_succ, List.set_cons_zero, List.set_cons_succ, List.length_cons, List.length_nil, List.length_map, List.length_append, List.length_reverse, List.length_replicate, List.length_range, List.nil_append, List.append_nil, List.cons_append, Nat.zero_add, Nat.add_zero, Bool.not_true, Bool.not_false, if_true, if_false, ite_true, ite_false, decide_true, decide_false, Bool.and_true, Bool.true_and, Bool.and_false, Bool.false_and, Option.toList_none, Option.toList_some, Option.bind_some, List.replicate_zero, List.replicate_succ, List.map_nil, List.map_cons, Nat.reduceSub, Nat.reduceAdd, Nat.reduceMul, Nat.reduceLeDiff, Nat.reduceLT, Nat.reduceEqDiff, Int.reduceLE, Int.reduceLT, Int.reduceNeg, Int.reduceMul, Int.reduceAdd, Int.reduceSub, Int.reducePow, Int.reduceToNat, Int.reduceEq, true_and, and_true, eq_self, Int.zero_add, Bool.false_eq_true, sumB]))
  refine wp_sel (fun h0 => ?_) fun h0 => ?_
  · have h0 := of_decide_eq_true h0
    (simp -failIfUnchanged -dsimp -implicitDefEqProofs only [↓PD.Wa, PD.Wb0, PD.Wb1, PD.Wb2, PD.Wb3, PD.Wb4, PD.Wb5, PD.lim, PD.smallI, List.getD_cons_zero, List.getD_cons_succ, List.flatten_cons, List.flatten_nil, PD.setMany, Int.toNat_natCast, List.getElem?_cons_zero, List.getElem?_cons_succ, List.set_cons_zero, List.set_cons_succ, List.length_cons, List.length_nil, List.length_map, List.length_append, List.length_reverse, List.length_replicate, List.length_range, List.nil_append, List.append_nil, List.cons_append, Nat.zero_add, Nat.add_zero, Bool.not_true, Bool.not_false, if_true, if_false, ite_true, ite_false, decide_true, decide_false, Bool.and_true, Bool.true_and, Bool.and_false, Bool.false_and, Option.toList_none, Option.toList_some, Option.bind_some, List.replicate_zero, List.replicate_succ, List.map_nil, List.map_cons, Nat.reduceSub, Nat.reduceAdd, Nat.reduceMul, Nat.reduceLeDiff, Nat.reduceLT, Nat.reduceEqDiff, Int.reduceLE, Int.reduceLT, Int.reduceNeg, Int.reduceMul, Int.reduceAdd, Int.reduceSub, Int.reducePow, Int.reduceToNat, Int.reduceEq, true_and, and_true, eq_self, Int.zero_add, Bool.false_eq_true]; repeat ((refine wp_must (by first | (simp only [Bool.and_eq_true, decide_eq_true_eq, List.length_map, List.length_append, List.length_replicate, List.length_cons, List.length_nil]; omega) | exact mulOk_r (by omega) (by omega) | exact mulOk_l (by omega) (by omega) | exact PD.divOk_of (by omega)) ?_); simp -failIfUnchanged -dsimp -implicitDefEqProofs only [↓PD.Wa, PD.Wb0, PD.Wb1, PD.Wb2, PD.Wb3, PD.Wb4, PD.Wb5, PD.lim, PD.smallI, List.getD_cons_zero, List.getD_cons_succ, List.flatten_cons, List.flatten_nil, PD.setMany, Int.toNat_natCast, List.getElem?_cons_zero, List.getElem?_cons_succ, List.set_cons_zero, List.set_cons_succ, List.length_cons, List.length_nil, List.length_map, List.length_append, List.length_reverse, List.length_replicate, List.length_range, List.nil_append, List.append_nil, List.cons_append, Nat.zero_add, Nat.add_zero, Bool.not_true, Bool.not_false, if_true, if_false, ite_true, ite_false, decide_true, decide_false, Bool.and_true, Bool.true_and, Bool.and_false, Bool.false_and, Option.toList_none, Option.toList_some, Option.bind_some, List.replicate_zero, List.replicate_succ, List.map_nil, List.map_cons, Nat.reduceSub, Nat.reduceAdd, Nat.reduceMul, Nat.reduceLeDiff, Nat.reduceLT, Nat.reduceEqDiff, Int.reduceLE, Int.reduceLT, Int.reduceNeg, Int.reduceMul, Int.reduceAdd, Int.reduceSub, Int.reducePow, Int.reduceToNat, Int.reduceEq, true_and, and_true, eq_self, Int.zero_add, Bool.false_eq_true]))
    refine wp_compm (fun k : Nat => .tup [.int (a.getD k 0), .int (b.getD k 0)]) (fun k => .int (a.getD k 0 + b.getD k 0)) (List.range (min a.length b.length)) (zip_range a b) rfl (fun j hj => ?_) ?_
    · (simp -failIfUnchanged -dsimp -implicitDefEqProofs only [↓PD.Wa, PD.Wb0, PD.Wb1, PD.Wb2, PD.Wb3, PD.Wb4, PD.Wb5, PD.lim, PD.smallI, List.getD_cons_zero, List.getD_cons_succ, List.flatten_cons, List.flatten_nil, PD.setMany, Int.toNat_natCast, List.getElem?_cons_zero, List.getElem?_cons_succ, List.set_cons_zero, List.set_cons_succ, List.length_cons, List.length_nil, List.length_map, List.length_append, List.length_reverse, List.length_replicate, List.length_range, List.nil_append, List.append_nil, List.cons_append, Nat.zero_add, Nat.add_zero, Bool.not_true, Bool.not_false, if_true, if_false, ite_true, ite_false, decide_true, decide_false, Bool.and_true, Bool.true_and, Bool.and_false, Bool.false_and, Option.toList_none, Option.toList_some, Option.bind_some, List.replicate_zero, List.replicate_succ, List.map_nil, List.map_cons, Nat.reduceSub, Nat.reduceAdd, Nat.reduceMul, Nat.reduceLeDiff, Nat.reduceLT, Nat.reduceEqDiff, Int.reduceLE, Int.reduceLT, Int.reduceNeg, Int.reduceMul, Int.reduceAdd, Int.reduceSub, Int.reducePow, Int.reduceToNat, Int.reduceEq, true_and, and_true, eq_self, Int.zero_add, Bool.false_eq_true]; repeat ((refine wp_must (by first | (simp only [Bool.and_eq_true, decide_eq_true_eq, List.length_map, List.length_append, List.length_replicate, List.length_cons, List.length_nil]; omega) | exact mulOk_r (by omega) (by omega) | exact mulOk_l (by omega) (by omega) | exact PD.divOk_of (by omega)) ?_); simp -failIfUnchanged -dsimp -implicitDefEqProofs only [↓PD.Wa, PD.Wb0, PD.Wb1, PD.Wb2, PD.Wb3, PD.Wb4, PD.Wb5, PD.lim, PD.smallI, List.getD_cons_zero, List.getD_cons_succ, List.flatten_cons, List.flatten_nil, PD.setMany, Int.toNat_natCast, List.getElem?_cons_zero, List.getElem?_cons_succ, List.set_cons_zero, List.set_cons_succ, List.length_cons, List.length_nil, List.length_map, List.length_append, List.length_reverse, List.length_replicate, List.length_range, List.nil_append, List.append_nil, List.cons_append, Nat.zero_add, Nat.add_zero, Bool.not_true, Bool.not_false, if_true, if_false, ite_true, ite_false, decide_true, decide_false, Bool.and_true, Bool.true_and, Bool.and_false, Bool.false_and, Option.toList_none, Option.toList_some, Option.bind_some, List.replicate_zero, List.replicate_succ, List.map_nil, List.map_cons, Nat.reduceSub, Nat.reduceAdd, Nat.reduceMul, Nat.reduceLeDiff, Nat.reduceLT, Nat.reduceEqDiff, Int.reduceLE, Int.reduceLT, Int.reduceNeg, Int.reduceMul, Int.reduceAdd, Int.reduceSub, Int.reducePow, Int.reduceToNat, Int.reduceEq, true_and, and_true, eq_self, Int.zero_add, Bool.false_eq_true]))
    · rw [cut_from _ (by omega), Int.toNat_natCast]
      have hd : (a.drop b.length).length ≤ 400000 := by rw [List.length_drop]; omega
      rw [map_int (fun k => a.getD k 0 + b.getD k 0)]
      (simp -failIfUnchanged -dsimp -implicitDefEqProofs only [↓PD.Wa, PD.Wb0, PD.Wb1, PD.Wb2, PD.Wb3, PD.Wb4, PD.Wb5, PD.lim, PD.smallI, List.getD_cons_zero, List.getD_cons_succ, List.flatten_cons, List.flatten_nil, PD.setMany, Int.toNat_natCast, List.getElem?_cons_zero, List.getElem?_cons_succ, List.set_cons_zero, List.set_cons_succ, List.length_cons, List.length_nil, List.length_map, List.length_append, List.length_reverse, List.length_replicate, List.length_range, List.nil_append, List.append_nil, List.cons_append, Nat.zero_add, Nat.add_zero, Bool.not_true, Bool.not_false, if_true, if_false, ite_true, ite_false, decide_true, decide_false, Bool.and_true, Bool.true_and, Bool.and_false, Bool.false_and, Option.toList_none, Option.toList_some, Option.bind_some, List.replicate_zero, List.replicate_succ, List.map_nil, List.map_cons, Nat.reduceSub, Nat.reduceAdd, Nat.reduceMul, Nat.reduceLeDiff, Nat.reduceLT, Nat.reduceEqDiff, Int.reduceLE, Int.reduceLT, Int.reduceNeg, Int.reduceMul, Int.reduceAdd, Int.reduceSub, Int.reducePow, Int.reduceToNat, Int.reduceEq, true_and, and_true, eq_self, Int.zero_add, Bool.false_eq_true]; repeat ((refine wp_must (by first | (simp only [Bool.and_eq_true, decide_eq_true_eq, List.length_map, List.length_append, List.length_replicate, List.length_cons, List.length_nil]; omega) | exact mulOk_r (by omega) (by omega) | exact mulOk_l (by omega) (by omega) | exact PD.divOk_of (by omega)) ?_); simp -failIfUnchanged -dsimp -implicitDefEqProofs only [↓PD.Wa, PD.Wb0, PD.Wb1, PD.Wb2, PD.Wb3, PD.Wb4, PD.Wb5, PD.lim, PD.smallI, List.getD_cons_zero, List.getD_cons_succ, List.flatten_cons, List.flatten_nil, PD.setMany, Int.toNat_natCast, List.getElem?_cons_zero, List.getElem?_cons_succ, List.set_cons_zero, List.set_cons_succ, List.length_cons, List.length_nil, List.length_map, List.length_append, List.length_reverse, List.length_replicate, List.length_range, List.nil_append, List.append_nil, List.cons_append, Nat.zero_add, Nat.add_zero, Bool.not_true, Bool.not_false, if_true, if_false, ite_true, ite_false, decide_true, decide_false, Bool.and_true, Bool.true_and, Bool.and_false, Bool.false_and, Option.toList_none, Option.toList_some, Option.bind_some, List.replicate_zero, List.replicate_succ, List.map_nil, List.map_cons, Nat.reduceSub, Nat.reduceAdd, Nat.reduceMul, Nat.reduceLeDiff, Nat.reduceLT, Nat.reduceEqDiff, Int.reduceLE, Int.reduceLT, Int.reduceNeg, Int.reduceMul, Int.reduceAdd, Int.reduceSub, Int.reducePow, Int.reduceToNat, Int.reduceEq, true_and, and_true, eq_self, Int.zero_add, Bool.false_eq_true]))
      rw [← List.map_append, sum_is (by omega)]
      exact hq
  · have h0 := of_decide_eq_false h0
    (simp -failIfUnchanged -dsimp -implicitDefEqProofs only [↓PD.Wa, PD.Wb0, PD.Wb1, PD.Wb2, PD.Wb3, PD.Wb4, PD.Wb5, PD.lim, PD.smallI, List.getD_cons_zero, List.getD_cons_succ, List.flatten_cons, List.flatten_nil, PD.setMany, Int.toNat_natCast, List.getElem?_cons_zero, List.getElem?_cons_succ, List.set_cons_zero, List.set_cons_succ, List.length_cons, List.length_nil, List.length_map, List.length_append, List.length_reverse, List.length_replicate, List.length_range, List.nil_append, List.append_nil, List.cons_append, Nat.zero_add, Nat.add_zero, Bool.not_true, Bool.not_false, if_true, if_false, ite_true, ite_false, decide_true, decide_false, Bool.and_true, Bool.true_and, Bool.and_false, Bool.false_and, Option.toList_none, Option.toList_some, Option.bind_some, List.replicate_zero, List.replicate_succ, List.map_nil, List.map_cons, Nat.reduceSub, Nat.reduceAdd, Nat.reduceMul, Nat.reduceLeDiff, Nat.reduceLT, Nat.reduceEqDiff, Int.reduceLE, Int.reduceLT, Int.reduceNeg, Int.reduceMul, Int.reduceAdd, Int.reduceSub, Int.reducePow, Int.reduceToNat, Int.reduceEq, true_and, and_true, eq_self, Int.zero_add, Bool.false_eq_true]; repeat ((refine wp_must (by first | (simp only [Bool.and_eq_true, decide_eq_true_eq, List.length_map, List.length_append, List.length_replicate, List.length_cons, List.length_nil]; omega) | exact mulOk_r (by omega) (by omega) | exact mulOk_l (by omega) (by omega) | exact PD.divOk_of (by omega)) ?_); simp -failIfUnchanged -dsimp -implicitDefEqProofs only [↓PD.Wa, PD.Wb0, PD.Wb1, PD.Wb2, PD.Wb3, PD.Wb4, PD.Wb5, PD.lim, PD.smallI, List.getD_cons_zero, List.getD_cons_succ, List.flatten_cons, List.flatten_nil, PD.setMany, Int.toNat_natCast, List.getElem?_cons_zero, List.getElem?_cons_succ, List.set_cons_zero, List.set_cons_succ, List.length_cons, List.length_nil, List.length_map, List.length_append, List.length_reverse, List.length_replicate, List.length_range, List.nil_append, List.append_nil, List.cons_append, Nat.zero_add, Nat.add_zero, Bool.not_true, Bool.not_false, if_true, if_false, ite_true, ite_false, decide_true, decide_false, Bool.and_true, Bool.true_and, Bool.and_false, Bool.false_and, Option.toList_none, Option.toList_some, Option.bind_some, List.replicate_zero, List.replicate_succ, List.map_nil, List.map_cons, Nat.reduceSub, Nat.reduceAdd, Nat.reduceMul, Nat.reduceLeDiff, Nat.reduceLT, Nat.reduceEqDiff, Int.reduceLE, Int.reduceLT, Int.reduceNeg, Int.reduceMul, Int.reduceAdd, Int.reduceSub, Int.reducePow, Int.reduceToNat, Int.reduceEq, true_and, and_true, eq_self, Int.zero_add, Bool.false_eq_true]))
    refine wp_compm (fun k : Nat => .tup [.int (b.getD k 0), .int (a.getD k 0)]) (fun k => .int (b.getD k 0 + a.getD k 0)) (List.range (min b.length a.length)) (zip_range b a) rfl (fun j hj => ?_) ?_
    · (simp -failIfUnchanged -dsimp -implicitDefEqProofs only [↓PD.Wa, PD.Wb0, PD.Wb1, PD.Wb2, PD.Wb3, PD.Wb4, PD.Wb5, PD.lim, PD.smallI, List.getD_cons_zero, List.getD_cons_succ, List.flatten_cons, List.flatten_nil, PD.setMany, Int.toNat_natCast, List.getElem?_cons_zero, List.getElem?_cons_succ, List.set_cons_zero, List.set_cons_succ, List.length_cons, List.length_nil, List.length_map, List.length_append, List.length_reverse, List.length_replicate, List.length_range, List.nil_append, List.append_nil, List.cons_append, Nat.zero_add, Nat.add_zero, Bool.not_true, Bool.not_false, if_true, if_false, ite_true, ite_false, decide_true, decide_false, Bool.and_true, Bool.true_and, Bool.and_false, Bool.false_and, Option.toList_none, Option.toList_some, Option.bind_some, List.replicate_zero, List.replicate_succ, List.map_nil, List.map_cons, Nat.reduceSub, Nat.reduceAdd, Nat.reduceMul, Nat.reduceLeDiff, Nat.reduceLT, Nat.reduceEqDiff, Int.reduceLE, Int.reduceLT, Int.reduceNeg, Int.reduceMul, Int.reduceAdd, Int.reduceSub, Int.reducePow, Int.reduceToNat, Int.reduceEq, true_and, and_true, eq_self, Int.zero_add, Bool.false_eq_true]; repeat ((refine wp_must (by first | (simp only [Bool.and_eq_true, decide_eq_true_eq, List.length_map, List.length_append, List.length_replicate, List.length_cons, List.length_nil]; omega) | exact mulOk_r (by omega) (by omega) | exact mulOk_l (by omega) (by omega) | exact PD.divOk_of (by omega)) ?_); simp -failIfUnchanged -dsimp -implicitDefEqProofs only [↓PD.Wa, PD.Wb0, PD.Wb1, PD.Wb2, PD.Wb3, PD.Wb4, PD.Wb5, PD.lim, PD.smallI, List.getD_cons_zero, List.getD_cons_succ, List.flatten_cons, List.flatten_nil, PD.setMany, Int.toNat_natCast, List.getElem?_cons_zero, List.getElem?_cons_succ, List.set_cons_zero, List.set_cons_succ, List.length_cons, List.length_nil, List.length_map, List.length_append, List.length_reverse, List.length_replicate, List.length_range, List.nil_append, List.append_nil, List.cons_append, Nat.zero_add, Nat.add_zero, Bool.not_true, Bool.not_false, if_true, if_false, ite_true, ite_false, decide_true, decide_false, Bool.and_true, Bool.true_and, Bool.and_false, Bool.false_and, Option.toList_none, Option.toList_some, Option.bind_some, List.replicate_zero, List.replicate_succ, List.map_nil, List.map_cons, Nat.reduceSub, Nat.reduceAdd, Nat.reduceMul, Nat.reduceLeDiff, Nat.reduceLT, Nat.reduceEqDiff, Int.reduceLE, Int.reduceLT, Int.reduceNeg, Int.reduceMul, Int.reduceAdd, Int.reduceSub, Int.reducePow, Int.reduceToNat, Int.reduceEq, true_and, and_true, eq_self, Int.zero_add, Bool.false_eq_true]))
    · rw [cut_from _ (by omega), Int.toNat_natCast]
      have hd : (b.drop a.length).length ≤ 400000 := by rw [List.length_drop]; omega
      rw [map_int (fun k => b.getD k 0 + a.getD k 0)]
      (simp -failIfUnchanged -dsimp -implicitDefEqProofs only [↓PD.Wa, PD.Wb0, PD.Wb1, PD.Wb2, PD.Wb3, PD.Wb4, PD.Wb5, PD.lim, PD.smallI, List.getD_cons_zero, List.getD_cons_succ, List.flatten_cons, List.flatten_nil, PD.setMany, Int.toNat_natCast, List.getElem?_cons_zero, List.getElem?_cons_succ, List.set_cons_zero, List.set_cons_succ, List.length_cons, List.length_nil, List.length_map, List.length_append, List.length_reverse, List.length_replicate, List.length_range, List.nil_append, List.append_nil, List.cons_append, Nat.zero_add, Nat.add_zero, Bool.not_true, Bool.not_false, if_true, if_false, ite_true, ite_false, decide_true, decide_false, Bool.and_true, Bool.true_and, Bool.and_false, Bool.false_and, Option.toList_none, Option.toList_some, Option.bind_some, List.replicate_zero, List.replicate_succ, List.map_nil, List.map_cons, Nat.reduceSub, Nat.reduceAdd, Nat.reduceMul, Nat.reduceLeDiff, Nat.reduceLT, Nat.reduceEqDiff, Int.reduceLE, Int.reduceLT, Int.reduceNeg, Int.reduceMul, Int.reduceAdd, Int.reduceSub, Int.reducePow, Int.reduceToNat, Int.reduceEq, true_and, and_true, eq_self, Int.zero_add, Bool.false_eq_true]; repeat ((refine wp_must (by first | (simp only [Bool.and_eq_true, decide_eq_true_eq, List.length_map, List.length_append, List.length_replicate, List.length_cons, List.length_nil]; omega) | exact mulOk_r (by omega) (by omega) | exact mulOk_l (by omega) (by omega) | exact PD.divOk_of (by omega)) ?_); simp -failIfUnchanged -dsimp -implicitDefEqProofs only [↓PD.Wa, PD.Wb0, PD.Wb1, PD.Wb2, PD.Wb3, PD.Wb4, PD.Wb5, PD.lim, PD.smallI, List.getD_cons_zero, List.getD_cons_succ, List.flatten_cons, List.flatten_nil, PD.setMany, Int.toNat_natCast, List.getElem?_cons_zero, List.getElem?_cons_succ, List.set_cons_zero, List.set_cons_succ, List.length_cons, List.length_nil, List.length_map, List.length_append, List.length_reverse, List.length_replicate, List.length_range, List.nil_append, List.append_nil, List.cons_append, Nat.zero_add, Nat.add_zero, Bool.not_true, Bool.not_false, if_true, if_false, ite_true, ite_false, decide_true, decide_false, Bool.and_true, Bool.true_and, Bool.and_false, Bool.false_and, Option.toList_none, Option.toList_some, Option.bind_some, List.replicate_zero, List.replicate_succ, List.map_nil, List.map_cons, Nat.reduceSub, Nat.reduceAdd, Nat.reduceMul, Nat.reduceLeDiff, Nat.reduceLT, Nat.reduceEqDiff, Int.reduceLE, Int.reduceLT, Int.reduceNeg, Int.reduceMul, Int.reduceAdd, Int.reduceSub, Int.reducePow, Int.reduceToNat, Int.reduceEq, true_and, and_true, eq_self, Int.zero_add, Bool.false_eq_true]))
      rw [← List.map_append, sum_is (by omega)]
      rw [addR_comm b a]
      exact hq
def powB (fp : Nat) : S := (S.seq (S.set 2 (E.tup (E.cons (E.cst (D.int 1)) E.nil))) (S.seq (S.loop (.nm 3) (E.rng (E.cons (E.var 1) E.nil)) (S.seq (S.set 2 (E.call fp (E.cons (E.var 2) (E.cons (E.var 0) E.nil)))) S.skip)) (S.seq (S.ret (E.var 2)) S.skip)))
def powF (fp : Nat) : Fn := { np := 2, ns := 4, body := powB fp }
theorem powR_len (a : List Int) (n : Nat) : (powR a n).length ≤ n * a.length + 1 := by
  induction n with
  | zero => simp [powR]
  | succ n ih =>
    have := mulR_le (powR a n) a
    by_cases z : powR a n = [] ∨ a = []
    · rw [powR, mulR_nil.mpr z]; simp
    · rw [powR, mulR_len (fun q => z (.inl q)) (fun q => z (.inr q)), Nat.succ_mul]; omega
theorem bd_powR {i L : Nat} {a : List Int} (ha : Bd i a) (hl : a.length ≤ 2 ^ L) (n : Nat) : Bd (n * (L + i) + 1) (powR a n) := by
  induction n with
  | zero => exact bd_one (by rw [Nat.zero_mul]; decide)
  | succ n ih =>
    rw [powR, mulR_comm]
    refine (bd_mulR ha ih hl).mono ?_
    rw [Nat.succ_mul]; omega
theorem wp_pow {fns : List Fn} {f fp : Nat} (hf : fns[f]? = some (powF fp)) (hp : fns[fp]? = some prodF) {k i L m : Nat} {a : List Int} {st : Store} {Q : D → Store → Prop} (hl : a.length ≤ 2 ^ L) (hL : m * 2 ^ L ≤ 300000 ∧ 2 ^ L ≤ 300000) (ha : Bd i a) (hi : m * (L + i) + i + 1 ≤ 400000) (hm : m ≤ 1000)
    (hq : Q (.tup ((powR a m).map D.int)) st) : Wp (callF fns (k + 2) f [.tup (a.map D.int), .int (m : Nat)] st) Q := by
  refine wp_call hf rfl ?_
  show Wp (ex _ (powB fp) [some (.tup (a.map D.int)), some (.int (m : Nat)), none, none] st) (CallQ false _ Q)
  (simp -failIfUnchanged -dsimp -implicitDefEqProofs only [↓PD.Wa, PD.Wb0, PD.Wb1, PD.Wb2, PD.Wb3, PD.Wb4, PD.Wb5, PD.lim, PD.smallI, List.getD_cons_zero, List.getD_cons_succ, List.flatten_cons, List.flatten_nil, PD.setMany, Int.toNat_natCast, List.getElem?_cons_zero, List.getElem?_cons_succ, List.set_cons_zero, List.set_cons_succ, List.length_cons, List.length_nil, List.length_map, List.length_append, List.length_reverse, List.length_replicate, List.length_range, List.nil_append, List.append_nil, List.cons_append, Nat.zero_add, Nat.add_zero, Bool.not_true, Bool.not_false, if_true, if_false, ite_true, ite_false, decide_true, decide_false, Bool.and_true, Bool.true_and, Bool.and_false, Bool.false_and, Option.toList_none, Option.toList_some, Option.bind_some, List.replicate_zero, List.replicate_succ, List.map_nil, List.map_cons, Nat.reduceSub, Nat.reduceAdd, Nat.reduceMul, Nat.reduceLeDiff, Nat.reduceLT, Nat.reduceEqDiff, Int.reduceLE, Int.reduceLT, Int.reduceNeg, Int.reduceMul, Int.reduceAdd, Int.reduceSub, Int.reducePow, Int.reduceToNat, Int.reduceEq, true_and, and_true, eq_self, Int.zero_add, Bool.false_eq_true, powB]; repeat ((refine wp_must (by first | (simp only [Bool.and_eq_true, decide_eq_true_eq, List.length_map, List.length_append, List.length_replicate, List.length_cons, List.length_nil]; omega) | exact mulOk_r (by omega) (by omega) | exact mulOk_l (by omega) (by omega) | exact PD.divOk_of (by omega)) ?_); simp -failIfUnchanged -dsimp -implicitDefEqProofs only [↓PD.Wa, PD.Wb0, PD.Wb1, PD.Wb2, PD.Wb3, PD.Wb4, PD.Wb5, PD.lim, PD.smallI, List.getD_cons_zero, List.getD_cons_succ, List.flatten_cons, List.flatten_nil, PD.setMany, Int.toNat_natCast, List.getElem?_cons_zero, List.getElem?_cons_succ, List.set_cons_zero, List.set_cons_succ, List.length_cons, List.length_nil, List.length_map, List.length_append, List.length_reverse, List.length_replicate, List.length_range, List.nil_append, List.append_nil, List.cons_append, Nat.zero_add, Nat.add_zero, Bool.not_true, Bool.not_false, if_true, if_false, ite_true, ite_false, decide_true, decide_false, Bool.and_true, Bool.true_and, Bool.and_false, Bool.false_and, Option.toList_none, Option.toList_some, Option.bind_some, List.replicate_zero, List.replicate_succ, List.map_nil, List.map_cons, Nat.reduceSub, Nat.reduceAdd, Nat.reduceMul, Nat.reduceLeDiff, Nat.reduceLT, Nat.reduceEqDiff, Int.reduceLE, Int.reduceLT, Int.reduceNeg, Int.reduceMul, Int.reduceAdd, Int.reduceSub, Int.reducePow, Int.reduceToNat, Int.reduceEq, true_and, and_true, eq_self, Int.zero_add, Bool.false_eq_true, powB]))
  refine wp_forR [2, 3] [some (.tup ((powR a 0).map D.int)), none] (fun n vs s => ∃ x, vs = [some (.tup ((powR a n).map D.int)), x] ∧ s = st) rfl ⟨none, rfl, rfl⟩ ?_ ?_
  · rintro n vs s hn ⟨x, rfl, rfl⟩
    have h1 := powR_len a n
    have h2 : n * a.length ≤ m * 2 ^ L := Nat.mul_le_mul (by omega) hl
    have h3 : n * (L + i) ≤ m * (L + i) := Nat.mul_le_mul_right _ (by omega)
    (simp -failIfUnchanged -dsimp -implicitDefEqProofs only [↓PD.Wa, PD.Wb0, PD.Wb1, PD.Wb2, PD.Wb3, PD.Wb4, PD.Wb5, PD.lim, PD.smallI, List.getD_cons_zero, List.getD_cons_succ, List.flatten_cons, List.flatten_nil, PD.setMany, Int.toNat_natCast, List.getElem?_cons_zero, List.getElem?_cons_succ, List.set_cons_zero, List.set_cons_succ, List.length_cons, List.length_nil, List.length_map, List.length_append, List.length_reverse, List.length_replicate, List.length_range, List.nil_append, List.append_nil, List.cons_append, Nat.zero_add, Nat.add_zero, Bool.not_true, Bool.not_false, if_true, if_false, ite_true, ite_false, decide_true, decide_false, Bool.and_true, Bool.true_and, Bool.and_false, Bool.false_and, Option.toList_none, Option.toList_some, Option.bind_some, List.replicate_zero, List.replicate_succ, List.map_nil, List.map_cons, Nat.reduceSub, Nat.reduceAdd, Nat.reduceMul, Nat.reduceLeDiff, Nat.reduceLT, Nat.reduceEqDiff, Int.reduceLE, Int.reduceLT, Int.reduceNeg, Int.reduceMul, Int.reduceAdd, Int.reduceSub, Int.reducePow, Int.reduceToNat, Int.reduceEq, true_and, and_true, eq_self, Int.zero_add, Bool.false_eq_true]; repeat ((refine wp_must (by first | (simp only [Bool.and_eq_true, decide_eq_true_eq, List.length_map, List.length_append, List.length_replicate, List.length_cons, List.length_nil]; omega) | exact mulOk_r (by omega) (by omega) | exact mulOk_l (by omega) (by omega) | exact PD.divOk_of (by omega)) ?_); simp -failIfUnchanged -dsimp -implicitDefEqProofs only [↓PD.Wa, PD.Wb0, PD.Wb1, PD.Wb2, PD.Wb3, PD.Wb4, PD.Wb5, PD.lim, PD.smallI, List.getD_cons_zero, List.getD_cons_succ, List.flatten_cons, List.flatten_nil, PD.setMany, Int.toNat_natCast, List.getElem?_cons_zero, List.getElem?_cons_succ, List.set_cons_zero, List.set_cons_succ, List.length_cons, List.length_nil, List.length_map, List.length_append, List.length_reverse, List.length_replicate, List.length_range, List.nil_append, List.append_nil, List.cons_append, Nat.zero_add, Nat.add_zero, Bool.not_true, Bool.not_false, if_true, if_false, ite_true, ite_false, decide_true, decide_false, Bool.and_true, Bool.true_and, Bool.and_false, Bool.false_and, Option.toList_none, Option.toList_some, Option.bind_some, List.replicate_zero, List.replicate_succ, List.map_nil, List.map_cons, Nat.reduceSub, Nat.reduceAdd, Nat.reduceMul, Nat.reduceLeDiff, Nat.reduceLT, Nat.reduceEqDiff, Int.reduceLE, Int.reduceLT, Int.reduceNeg, Int.reduceMul, Int.reduceAdd, Int.reduceSub, Int.reducePow, Int.reduceToNat, Int.reduceEq, true_and, and_true, eq_self, Int.zero_add, Bool.false_eq_true]))
    refine wp_prod hp (i := m * (L + i) + i + 1) ⟨by omega, by omega⟩ ((bd_powR ha hl n).mono (by omega)) (ha.mono (by omega)) hi ?_
    (simp -failIfUnchanged -dsimp -implicitDefEqProofs only [↓PD.Wa, PD.Wb0, PD.Wb1, PD.Wb2, PD.Wb3, PD.Wb4, PD.Wb5, PD.lim, PD.smallI, List.getD_cons_zero, List.getD_cons_succ, List.flatten_cons, List.flatten_nil, PD.setMany, Int.toNat_natCast, List.getElem?_cons_zero, List.getElem?_cons_succ, List.set_cons_zero, List.set_cons_succ, List.length_cons, List.length_nil, List.length_map, List.length_append, List.length_reverse, List.length_replicate, List.length_range, List.nil_append, List.append_nil, List.cons_append, Nat.zero_add, Nat.add_zero, Bool.not_true, Bool.not_false, if_true, if_false, ite_true, ite_false, decide_true, decide_false, Bool.and_true, Bool.true_and, Bool.and_false, Bool.false_and, Option.toList_none, Option.toList_some, Option.bind_some, List.replicate_zero, List.replicate_succ, List.map_nil, List.map_cons, Nat.reduceSub, Nat.reduceAdd, Nat.reduceMul, Nat.reduceLeDiff, Nat.reduceLT, Nat.reduceEqDiff, Int.reduceLE, Int.reduceLT, Int.reduceNeg, Int.reduceMul, Int.reduceAdd, Int.reduceSub, Int.reducePow, Int.reduceToNat, Int.reduceEq, true_and, and_true, eq_self, Int.zero_add, Bool.false_eq_true]; repeat ((refine wp_must (by first | (simp only [Bool.and_eq_true, decide_eq_true_eq, List.length_map, List.length_append, List.length_replicate, List.length_cons, List.length_nil]; omega) | exact mulOk_r (by omega) (by omega) | exact mulOk_l (by omega) (by omega) | exact PD.divOk_of (by omega)) ?_); simp -failIfUnchanged -dsimp -implicitDefEqProofs only [↓PD.Wa, PD.Wb0, PD.Wb1, PD.Wb2, PD.Wb3, PD.Wb4, PD.Wb5, PD.lim, PD.smallI, List.getD_cons_zero, List.getD_cons_succ, List.flatten_cons, List.flatten_nil, PD.setMany, Int.toNat_natCast, List.getElem?_cons_zero, List.getElem?_cons_succ, List.set_cons_zero, List.set_cons_succ, List.length_cons, List.length_nil, List.length_map, List.length_append, List.length_reverse, List.length_replicate, List.length_range, List.nil_append, List.append_nil, List.cons_append, Nat.zero_add, Nat.add_zero, Bool.not_true, Bool.not_false, if_true, if_false, ite_true, ite_false, decide_true, decide_false, Bool.and_true, Bool.true_and, Bool.and_false, Bool.false_and, Option.toList_none, Option.toList_some, Option.bind_some, List.replicate_zero, List.replicate_succ, List.map_nil, List.map_cons, Nat.reduceSub, Nat.reduceAdd, Nat.reduceMul, Nat.reduceLeDiff, Nat.reduceLT, Nat.reduceEqDiff, Int.reduceLE, Int.reduceLT, Int.reduceNeg, Int.reduceMul, Int.reduceAdd, Int.reduceSub, Int.reducePow, Int.reduceToNat, Int.reduceEq, true_and, and_true, eq_self, Int.zero_add, Bool.false_eq_true]))
    exact ⟨[_, _], rfl, _, rfl⟩
  · rintro vs s ⟨x, rfl, rfl⟩
    (simp -failIfUnchanged -dsimp -implicitDefEqProofs only [↓PD.Wa, PD.Wb0, PD.Wb1, PD.Wb2, PD.Wb3, PD.Wb4, PD.Wb5, PD.lim, PD.smallI, List.getD_cons_zero, List.getD_cons_succ, List.flatten_cons, List.flatten_nil, PD.setMany, Int.toNat_natCast, List.getElem?_cons_zero, List.getElem?_cons_succ, List.set_cons_zero, List.set_cons_succ, List.length_cons, List.length_nil, List.length_map, List.length_append, List.length_reverse, List.length_replicate, List.length_range, List.nil_append, List.append_nil, List.cons_append, Nat.zero_add, Nat.add_zero, Bool.not_true, Bool.not_false, if_true, if_false, ite_true, ite_false, decide_true, decide_false, Bool.and_true, Bool.true_and, Bool.and_false, Bool.false_and, Option.toList_none, Option.toList_some, Option.bind_some, List.replicate_zero, List.replicate_succ, List.map_nil, List.map_cons, Nat.reduceSub, Nat.reduceAdd, Nat.reduceMul, Nat.reduceLeDiff, Nat.reduceLT, Nat.reduceEqDiff, Int.reduceLE, Int.reduceLT, Int.reduceNeg, Int.reduceMul, Int.reduceAdd, Int.reduceSub, Int.reducePow, Int.reduceToNat, Int.reduceEq, true_and, and_true, eq_self, Int.zero_add, Bool.false_eq_true]; repeat ((refine wp_must (by first | (simp only [Bool.and_eq_true, decide_eq_true_eq, List.length_map, List.length_append, List.length_replicate, List.length_cons, List.length_nil]; omega) | exact mulOk_r (by omega) (by omega) | exact mulOk_l (by omega) (by omega) | exact PD.divOk_of (by omega)) ?_); simp -failIfUnchanged -dsimp -implicitDefEqProofs only [↓PD.Wa, PD.Wb0, PD.Wb1, PD.Wb2, PD.Wb3, PD.Wb4, PD.Wb5, PD.lim, PD.smallI, List.getD_cons_zero, List.getD_cons_succ, List.flatten_cons, List.flatten_nil, PD.setMany, Int.toNat_natCast, List.getElem?_cons_zero, List.getElem?_cons_succ, List.set_cons_zero, List.set_cons_succ, List.length_cons, List.length_nil, List.length_map, List.length_append, List.length_reverse, List.length_replicate, List.length_range, List.nil_append, List.append_nil, List.cons_append, Nat.zero_add, Nat.add_zero, Bool.not_true, Bool.not_false, if_true, if_false, ite_true, ite_false, decide_true, decide_false, Bool.and_true, Bool.true_and, Bool.and_false, Bool.false_and, Option.toList_none, Option.toList_some, Option.bind_some, List.replicate_zero, List.replicate_succ, List.map_nil, List.map_cons, Nat.reduceSub, Nat.reduceAdd, Nat.reduceMul, Nat.reduceLeDiff, Nat.reduceLT, Nat.reduceEqDiff, Int.reduceLE, Int.reduceLT, Int.reduceNeg, Int.reduceMul, Int.reduceAdd, Int.reduceSub, Int.reducePow, Int.reduceToNat, Int.reduceEq, true_and, and_true, eq_self, Int.zero_add, Bool.false_eq_true]))
    exact hq
def sprB : S := (S.seq (S.set 1 (E.newl (E.lst E.nil))) (S.seq (S.loop (.nm 2) (E.itv (E.var 0)) (S.seq (S.exp (E.mth .extend (E.var 1) (E.cons (E.lst (E.cons (E.var 2) (E.cons (E.cst (D.int 0)) E.nil))) E.nil))) S.skip)) (S.seq (S.ret (E.bi .tuple (E.cons (E.var 1) E.nil))) S.skip)))
def sprF : Fn := { np := 1, ns := 3, body := sprB }
theorem wp_spr {fns : List Fn} {f : Nat} (hf : fns[f]? = some sprF) {k : Nat} {a : List Int} {st : Store} {Q : D → Store → Prop} (hl : a.length ≤ 400000)
    (hq : Q (.tup ((sprR a).map D.int)) st) : Wp (callF fns (k + 1) f [.tup (a.map D.int)] st) Q := by
  refine wp_call hf rfl ?_
  show Wp (ex _ sprB [some (.tup (a.map D.int)), none, none] st) (CallQ false _ Q)
  (simp -failIfUnchanged -dsimp -implicitDefEqProofs only [↓PD.Wa, PD.Wb0, PD.Wb1, PD.Wb2, PD.Wb3, PD.Wb4, PD.Wb5, PD.lim, PD.smallI, List.getD_cons_zero, List.getD_cons_succ, List.flatten_cons, List.flatten_nil, PD.setMany, Int.toNat_natCast, List.getElem?_cons_zero, List.getElem?_cons_succ, List.set_cons_zero, List.set_cons_succ, List.length_cons, List.length_nil, List.length_map, List.length_append, List.length_reverse, List.length_replicate, List.length_range, List.nil_append, List.append_nil, List.cons_append, Nat.zero_add, Nat.add_zero, Bool.not_true, Bool.not_false, if_true, if_false, ite_true, ite_false, decide_true, decide_false, Bool.and_true, Bool.true_and, Bool.and_false, Bool.false_and, Option.toList_none, Option.toList_some, Option.bind_some, List.replicate_zero, List.replicate_succ, List.map_nil, List.map_cons, Nat.reduceSub, Nat.reduceAdd, Nat.reduceMul, Nat.reduceLeDiff, Nat.reduceLT, Nat.reduceEqDiff, Int.reduceLE, Int.reduceLT, Int.reduceNeg, Int.reduceMul, Int.reduceAdd, Int.reduceSub, Int.reducePow, Int.reduceToNat, Int.reduceEq, true_and, and_true, eq_self, Int.zero_add, Bool.false_eq_true, sprB]; repeat ((refine wp_must (by first | (simp only [Bool.and_eq_true, decide_eq_true_eq, List.length_map, List.length_append, List.length_replicate, List.length_cons, List.length_nil]; omega) | exact mulOk_r (by omega) (by omega) | exact mulOk_l (by omega) (by omega) | exact PD.divOk_of (by omega)) ?_); simp -failIfUnchanged -dsimp -implicitDefEqProofs only [↓PD.Wa, PD.Wb0, PD.Wb1, PD.Wb2, PD.Wb3, PD.Wb4, PD.Wb5, PD.lim, PD.smallI, List.getD_cons_zero, List.getD_cons_succ, List.flatten_cons, List.flatten_nil, PD.setMany, Int.toNat_natCast, List.getElem?_cons_zero, List.getElem?_cons_succ, List.set_cons_zero, List.set_cons_succ, List.length_cons, List.length_nil, List.length_map, List.length_append, List.length_reverse, List.length_replicate, List.length_range, List.nil_append, List.append_nil, List.cons_append, Nat.zero_add, Nat.add_zero, Bool.not_true, Bool.not_false, if_true, if_false, ite_true, ite_false, decide_true, decide_false, Bool.and_true, Bool.true_and, Bool.and_false, Bool.false_and, Option.toList_none, Option.toList_some, Option.bind_some, List.replicate_zero, List.replicate_succ, List.map_nil, List.map_cons, Nat.reduceSub, Nat.reduceAdd, Nat.reduceMul, Nat.reduceLeDiff, Nat.reduceLT, Nat.reduceEqDiff, Int.reduceLE, Int.reduceLT, Int.reduceNeg, Int.reduceMul, Int.reduceAdd, Int.reduceSub, Int.reducePow, Int.reduceToNat, Int.reduceEq, true_and, and_true, eq_self, Int.zero_add, Bool.false_eq_true, sprB]))
  refine wp_for D.int a [2] [none] (fun p vs s => ∃ x, vs = [x] ∧ s = st ++ [.lst ((sprR p).map D.int)]) rfl rfl ⟨none, rfl, rfl⟩ ?_ ?_
  · rintro p x r vs s hp ⟨y, rfl, rfl⟩
    have lp : (sprR p).length ≤ 800000 := by rw [sprR_len]; rw [hp, List.length_append] at hl; omega
    (simp -failIfUnchanged -dsimp -implicitDefEqProofs only [↓PD.Wa, PD.Wb0, PD.Wb1, PD.Wb2, PD.Wb3, PD.Wb4, PD.Wb5, PD.lim, PD.smallI, List.getD_cons_zero, List.getD_cons_succ, List.flatten_cons, List.flatten_nil, PD.setMany, Int.toNat_natCast, List.getElem?_cons_zero, List.getElem?_cons_succ, List.set_cons_zero, List.set_cons_succ, List.length_cons, List.length_nil, List.length_map, List.length_append, List.length_reverse, List.length_replicate, List.length_range, List.nil_append, List.append_nil, List.cons_append, Nat.zero_add, Nat.add_zero, Bool.not_true, Bool.not_false, if_true, if_false, ite_true, ite_false, decide_true, decide_false, Bool.and_true, Bool.true_and, Bool.and_false, Bool.false_and, Option.toList_none, Option.toList_some, Option.bind_some, List.replicate_zero, List.replicate_succ, List.map_nil, List.map_cons, Nat.reduceSub, Nat.reduceAdd, Nat.reduceMul, Nat.reduceLeDiff, Nat.reduceLT, Nat.reduceEqDiff, Int.reduceLE, Int.reduceLT, Int.reduceNeg, Int.reduceMul, Int.reduceAdd, Int.reduceSub, Int.reducePow, Int.reduceToNat, Int.reduceEq, true_and, and_true, eq_self, Int.zero_add, Bool.false_eq_true, List.set_cons_zero]; repeat ((refine wp_must (by first | (simp only [Bool.and_eq_true, decide_eq_true_eq, List.length_map, List.length_append, List.length_replicate, List.length_cons, List.length_nil]; omega) | exact mulOk_r (by omega) (by omega) | exact mulOk_l (by omega) (by omega) | exact PD.divOk_of (by omega)) ?_); simp -failIfUnchanged -dsimp -implicitDefEqProofs only [↓PD.Wa, PD.Wb0, PD.Wb1, PD.Wb2, PD.Wb3, PD.Wb4, PD.Wb5, PD.lim, PD.smallI, List.getD_cons_zero, List.getD_cons_succ, List.flatten_cons, List.flatten_nil, PD.setMany, Int.toNat_natCast, List.getElem?_cons_zero, List.getElem?_cons_succ, List.set_cons_zero, List.set_cons_succ, List.length_cons, List.length_nil, List.length_map, List.length_append, List.length_reverse, List.length_replicate, List.length_range, List.nil_append, List.append_nil, List.cons_append, Nat.zero_add, Nat.add_zero, Bool.not_true, Bool.not_false, if_true, if_false, ite_true, ite_false, decide_true, decide_false, Bool.and_true, Bool.true_and, Bool.and_false, Bool.false_and, Option.toList_none, Option.toList_some, Option.bind_some, List.replicate_zero, List.replicate_succ, List.map_nil, List.map_cons, Nat.reduceSub, Nat.reduceAdd, Nat.reduceMul, Nat.reduceLeDiff, Nat.reduceLT, Nat.reduceEqDiff, Int.reduceLE, Int.reduceLT, Int.reduceNeg, Int.reduceMul, Int.reduceAdd, Int.reduceSub, Int.reducePow, Int.reduceToNat, Int.reduceEq, true_and, and_true, eq_self, Int.zero_add, Bool.false_eq_true, List.set_cons_zero]))
    refine ⟨[_], rfl, _, rfl, ?_⟩
    rw [sprR_app]
    simp [sprR]
  · rintro vs s ⟨y, rfl, rfl⟩
    (simp -failIfUnchanged -dsimp -implicitDefEqProofs only [↓PD.Wa, PD.Wb0, PD.Wb1, PD.Wb2, PD.Wb3, PD.Wb4, PD.Wb5, PD.lim, PD.smallI, List.getD_cons_zero, List.getD_cons_succ, List.flatten_cons, List.flatten_nil, PD.setMany, Int.toNat_natCast, List.getElem?_cons_zero, List.getElem?_cons_succ, List.set_cons_zero, List.set_cons_succ, List.length_cons, List.length_nil, List.length_map, List.length_append, List.length_reverse, List.length_replicate, List.length_range, List.nil_append, List.append_nil, List.cons_append, Nat.zero_add, Nat.add_zero, Bool.not_true, Bool.not_false, if_true, if_false, ite_true, ite_false, decide_true, decide_false, Bool.and_true, Bool.true_and, Bool.and_false, Bool.false_and, Option.toList_none, Option.toList_some, Option.bind_some, List.replicate_zero, List.replicate_succ, List.map_nil, List.map_cons, Nat.reduceSub, Nat.reduceAdd, Nat.reduceMul, Nat.reduceLeDiff, Nat.reduceLT, Nat.reduceEqDiff, Int.reduceLE, Int.reduceLT, Int.reduceNeg, Int.reduceMul, Int.reduceAdd, Int.reduceSub, Int.reducePow, Int.reduceToNat, Int.reduceEq, true_and, and_true, eq_self, Int.zero_add, Bool.false_eq_true]; repeat ((refine wp_must (by first | (simp only [Bool.and_eq_true, decide_eq_true_eq, List.length_map, List.length_append, List.length_replicate, List.length_cons, List.length_nil]; omega) | exact mulOk_r (by omega) (by omega) | exact mulOk_l (by omega) (by omega) | exact PD.divOk_of (by omega)) ?_); simp -failIfUnchanged -dsimp -implicitDefEqProofs only [↓PD.Wa, PD.Wb0, PD.Wb1, PD.Wb2, PD.Wb3, PD.Wb4, PD.Wb5, PD.lim, PD.smallI, List.getD_cons_zero, List.getD_cons_succ, List.flatten_cons, List.flatten_nil, PD.setMany, Int.toNat_natCast, List.getElem?_cons_zero, List.getElem?_cons_succ, List.set_cons_zero, List.set_cons_succ, List.length_cons, List.length_nil, List.length_map, List.length_append, List.length_reverse, List.length_replicate, List.length_range, List.nil_append, List.append_nil, List.cons_append, Nat.zero_add, Nat.add_zero, Bool.not_true, Bool.not_false, if_true, if_false, ite_true, ite_false, decide_true, decide_false, Bool.and_true, Bool.true_and, Bool.and_false, Bool.false_and, Option.toList_none, Option.toList_some, Option.bind_some, List.replicate_zero, List.replicate_succ, List.map_nil, List.map_cons, Nat.reduceSub, Nat.reduceAdd, Nat.reduceMul, Nat.reduceLeDiff, Nat.reduceLT, Nat.reduceEqDiff, Int.reduceLE, Int.reduceLT, Int.reduceNeg, Int.reduceMul, Int.reduceAdd, Int.reduceSub, Int.reducePow, Int.reduceToNat, Int.reduceEq, true_and, and_true, eq_self, Int.zero_add, Bool.false_eq_true]))
    rw [end_own (by rw [bare_tup]; exact bare_ints _)]
    exact hq
end PD

/-! Changes of sign. -/
namespace PD
open PySem PySem.Spec PyProof.Rows L2
def sgs (ns : List Int) : List Bool := ns.filterMap fun i => if i ≠ 0 then some (decide (0 < i)) else none
def trn : List Bool → Nat
  | a :: b :: r => (if a ≠ b then 1 else 0) + trn (b :: r)
  | _ => 0
/-- do the signs that meet differ -/
def meet : Option Bool → Option Bool → Nat
  | some a, some b => if a ≠ b then 1 else 0
  | _, _ => 0
theorem trn_cons (a : Bool) (r : List Bool) : trn (a :: r) = meet (some a) r.head? + trn r := by
  cases r with
  | nil => rfl
  | cons b r => rfl
theorem trn_app : ∀ (l m : List Bool), trn (l ++ m) = trn l + trn m + meet l.getLast? m.head?
  | [], m => by
    show trn m = 0 + trn m + meet none m.head?
    simp [meet]
  | [a], m => by
    show trn (a :: m) = 0 + trn m + meet (some a) m.head?
    rw [trn_cons]; omega
  | a :: b :: r, m => by
    have ih := trn_app (b :: r) m
    show trn (a :: (b :: r ++ m)) = _
    rw [trn_cons, ih, trn_cons a (b :: r)]
    have e1 : (b :: r ++ m).head? = some b := rfl
    have e2 : (b :: r).head? = some b := rfl
    have e3 : (a :: b :: r).getLast? = (b :: r).getLast? := by simp [List.getLast?_cons_cons]
    rw [e1, e2, e3]
    omega
theorem meet_comm (a b : Option Bool) : meet a b = meet b a := by
  cases a <;> cases b <;> simp [meet, eq_comm]
theorem trn_rev : ∀ l : List Bool, trn l.reverse = trn l
  | [] => rfl
  | a :: r => by
    rw [List.reverse_cons, trn_app, trn_rev r, List.getLast?_reverse, trn_cons a r]
    show trn r + 0 + meet r.head? (some a) = meet (some a) r.head? + trn r
    rw [meet_comm]; omega
theorem trn_not : ∀ l : List Bool, trn (l.map (!·)) = trn l
  | [] => rfl
  | [a] => rfl
  | a :: b :: r => by
    have ih := trn_not (b :: r)
    show trn ((!a) :: (b :: r).map (!·)) = _
    rw [trn_cons, ih, trn_cons a (b :: r)]
    cases a <;> cases b <;> rfl
theorem sgs_app (l m : List Int) : sgs (l ++ m) = sgs l ++ sgs m := List.filterMap_append ..
theorem sgs_rev (l : List Int) : sgs l.reverse = (sgs l).reverse := List.filterMap_reverse ..
theorem sgs_nz (l : List Int) : sgs (l.filter fun i => decide (i ≠ 0)) = sgs l := by
  unfold sgs
  rw [List.filterMap_filter]
  congr 1
  funext i
  by_cases h : i = 0 <;> simp [h]
theorem sgs_zero : ∀ n : Nat, sgs (List.replicate n 0) = []
  | 0 => rfl
  | n + 1 => by rw [List.replicate_succ]; exact sgs_zero n
theorem sgs_mul {f : Int} (h : f ≠ 0) (l : List Int) : trn (sgs (l.map (f * ·))) = trn (sgs l) := by
  by_cases hp : 0 < f
  · have e : sgs (l.map (f * ·)) = sgs l := by
      unfold sgs
      rw [List.filterMap_map]
      congr 1
      funext i
      show (if f * i ≠ 0 then some (decide (0 < f * i)) else none) = _
      by_cases hi : i = 0
      · subst hi; simp
      · rw [if_pos (Int.mul_ne_zero h hi), if_pos hi]
        congr 1
        refine decide_eq_decide.mpr ⟨fun q => ?_, fun q => Int.mul_pos hp q⟩
        rcases Int.lt_or_gt_of_ne hi with z | z
        · have := Int.mul_neg_of_pos_of_neg hp z
          omega
        · exact z
    rw [e]
  · have hn : f < 0 := by omega
    have e : sgs (l.map (f * ·)) = (sgs l).map (!·) := by
      unfold sgs
      rw [List.filterMap_map, List.map_filterMap]
      congr 1
      funext i
      show (if f * i ≠ 0 then some (decide (0 < f * i)) else none) = _
      by_cases hi : i = 0
      · subst hi; simp
      · rw [if_pos (Int.mul_ne_zero h hi), if_pos hi]
        show some (decide (0 < f * i)) = some (!decide (0 < i))
        congr 1
        rcases Int.lt_or_gt_of_ne hi with q | q
        · have : 0 < f * i := Int.mul_pos_of_neg_of_neg hn q
          simp [this, Int.le_of_lt q]
        · have : f * i < 0 := Int.mul_neg_of_neg_of_pos hn q
          simp [Int.le_of_lt this, q]
    rw [e, trn_not]
theorem sgs_len (ns : List Int) : (sgs ns).length ≤ ns.length := List.length_filterMap_le _ _
theorem trn_le (bs : List Bool) : trn bs ≤ bs.length := by
  induction bs with
  | nil => exact Nat.le_refl _
  | cons b bs ih =>
    rw [trn_cons, List.length_cons]
    have : meet (some b) bs.head? ≤ 1 := by
      unfold meet; split
      · split <;> omega
      · omega
    omega
theorem sgs_filt (ns : List Int) : (ns.filter fun i => decide (i ≠ 0)).map (fun i => D.bl (decide (0 < i))) = (sgs ns).map D.bl := by
  induction ns with
  | nil => rfl
  | cons i ns ih =>
    unfold sgs at ih ⊢
    by_cases h : i = 0
    · rw [List.filter_cons_of_neg (by simp [h]), List.filterMap_cons_none (by simp [h])]; exact ih
    · rw [List.filter_cons_of_pos (by simp [h]), List.filterMap_cons_some (b := decide (0 < i)) (by simp [h]), List.map_cons, ih]; rfl
theorem trn_filt (bs : List Bool) : (((bs.zip (bs.drop 1)).filter fun x => !decide (x.1 = x.2)).map fun x => D.bl x.1).length = trn bs := by
  rw [List.length_map]
  induction bs with
  | nil => rfl
  | cons a r ih =>
    cases r with
    | nil => rfl
    | cons b r =>
      have ih : (((b :: r).zip r).filter fun x => !decide (x.1 = x.2)).length = trn (b :: r) := ih
      show (((a, b) :: (b :: r).zip r).filter fun x => !decide (x.1 = x.2)).length = (if a ≠ b then 1 else 0) + trn (b :: r)
      by_cases h : a = b
      · rw [List.filter_cons_of_neg (by simp [h]), ih, if_neg (by simp [h])]; omega
      · rw [List.filter_cons_of_pos (by simp [h]), List.length_cons, ih, if_pos h]; omega
def turnsB : S := (S.seq (S.set 1 (E.comp (E.cmp .gt (E.var 2) (E.cst (D.int 0))) (.nm 2) (E.itv (E.var 0)) (E.cmp .ne (E.var 2) (E.cst (D.int 0))) [2])) (S.seq (S.ret (E.bi .len (E.cons (E.comp (E.var 3) (.tp [3, 4]) (E.zip (E.var 1) (E.slc (E.var 1) true (E.cst (D.int 1)) false E.nil)) (E.cmp .ne (E.var 3) (E.var 4)) [3, 4]) E.nil))) S.skip))
def turnsF : Fn := { np := 1, ns := 5, body := turnsB }
theorem wp_turns {fns : List Fn} {f : Nat} (hf : fns[f]? = some turnsF) {k : Nat} {a : List Int} {st : Store} {Q : D → Store → Prop} (hl : a.length ≤ 1000000)
    (hq : Q (.int (trn (sgs a))) st) : Wp (callF fns (k + 1) f [.tup (a.map D.int)] st) Q := by
  refine wp_call hf rfl ?_
  show Wp (ex _ turnsB [some (.tup (a.map D.int)), none, none, none, none] st) (CallQ false _ Q)
  have ls := sgs_len a
  (simp -failIfUnchanged -dsimp -implicitDefEqProofs only [↓PD.Wa, PD.Wb0, PD.Wb1, PD.Wb2, PD.Wb3, PD.Wb4, PD.Wb5, PD.lim, PD.smallI, List.getD_cons_zero, List.getD_cons_succ, List.flatten_cons, List.flatten_nil, PD.setMany, Int.toNat_natCast, List.getElem?_cons_zero, List.getElem?_cons_succ, List.set_cons_zero, List.set_cons_succ, List.length_cons, List.length_nil, List.length_map, List.length_append, List.length_reverse, List.length_replicate, List.length_range, List.nil_append, List.append_nil, List.cons_append, Nat.zero_add, Nat.add_zero, Bool.not_true, Bool.not_false, if_true, if_false, ite_true, ite_false, decide_true, decide_false, Bool.and_true, Bool.true_and, Bool.and_false, Bool.false_and, Option.toList_none, Option.toList_some, Option.bind_some, List.replicate_zero, List.replicate_succ, List.map_nil, List.map_cons, Nat.reduceSub, Nat.reduceAdd, Nat.reduceMul, Nat.reduceLeDiff, Nat.reduceLT, Nat.reduceEqDiff, Int.reduceLE, Int.reduceLT, Int.reduceNeg, Int.reduceMul, Int.reduceAdd, Int.reduceSub, Int.reducePow, Int.reduceToNat, Int.reduceEq, true_and, and_true, eq_self, Int.zero_add, Bool.false_eq_true, turnsB]; repeat ((refine wp_must (by first | (simp only [Bool.and_eq_true, decide_eq_true_eq, List.length_map, List.length_append, List.length_replicate, List.length_cons, List.length_nil]; omega) | exact mulOk_r (by omega) (by omega) | exact mulOk_l (by omega) (by omega) | exact PD.divOk_of (by omega)) ?_); simp -failIfUnchanged -dsimp -implicitDefEqProofs only [↓PD.Wa, PD.Wb0, PD.Wb1, PD.Wb2, PD.Wb3, PD.Wb4, PD.Wb5, PD.lim, PD.smallI, List.getD_cons_zero, List.getD_cons_succ, List.flatten_cons, List.flatten_nil, PD.setMany, Int.toNat_natCast, List.getElem?_cons_zero, List.getElem?_cons_succ, List.set_cons_zero, List.set_cons_succ, List.length_cons, List.length_nil, List.length_map, List.length_append, List.length_reverse, List.length_replicate, List.length_range, List.nil_append, List.append_nil, List.cons_append, Nat.zero_add, Nat.add_zero, Bool.not_true, Bool.not_false, if_true, if_false, ite_true, ite_false, decide_true, decide_false, Bool.and_true, Bool.true_and, Bool.and_false, Bool.false_and, Option.toList_none, Option.toList_some, Option.bind_some, List.replicate_zero, List.replicate_succ, List.map_nil, List.map_cons, Nat.reduceSub, Nat.reduceAdd, Nat.reduceMul, Nat.reduceLeDiff, Nat.reduceLT, Nat.reduceEqDiff, Int.reduceLE, Int.reduceLT, Int.reduceNeg, Int.reduceMul, Int.reduceAdd, Int.reduceSub, Int.reducePow, Int.reduceToNat, Int.reduceEq, true_and, and_true, eq_self, Int.zero_add, Bool.false_eq_true, turnsB]))
  refine wp_filt D.int (fun i => decide (i ≠ 0)) (fun i => .bl (decide (0 < i))) a rfl rfl (fun i hi => ?_) ?_
  · (simp -failIfUnchanged -dsimp -implicitDefEqProofs only [↓PD.Wa, PD.Wb0, PD.Wb1, PD.Wb2, PD.Wb3, PD.Wb4, PD.Wb5, PD.lim, PD.smallI, List.getD_cons_zero, List.getD_cons_succ, List.flatten_cons, List.flatten_nil, PD.setMany, Int.toNat_natCast, List.getElem?_cons_zero, List.getElem?_cons_succ, List.set_cons_zero, List.set_cons_succ, List.length_cons, List.length_nil, List.length_map, List.length_append, List.length_reverse, List.length_replicate, List.length_range, List.nil_append, List.append_nil, List.cons_append, Nat.zero_add, Nat.add_zero, Bool.not_true, Bool.not_false, if_true, if_false, ite_true, ite_false, decide_true, decide_false, Bool.and_true, Bool.true_and, Bool.and_false, Bool.false_and, Option.toList_none, Option.toList_some, Option.bind_some, List.replicate_zero, List.replicate_succ, List.map_nil, List.map_cons, Nat.reduceSub, Nat.reduceAdd, Nat.reduceMul, Nat.reduceLeDiff, Nat.reduceLT, Nat.reduceEqDiff, Int.reduceLE, Int.reduceLT, Int.reduceNeg, Int.reduceMul, Int.reduceAdd, Int.reduceSub, Int.reducePow, Int.reduceToNat, Int.reduceEq, true_and, and_true, eq_self, Int.zero_add, Bool.false_eq_true]; repeat ((refine wp_must (by first | (simp only [Bool.and_eq_true, decide_eq_true_eq, List.length_map, List.length_append, List.length_replicate, List.length_cons, List.length_nil]; omega) | exact mulOk_r (by omega) (by omega) | exact mulOk_l (by omega) (by omega) | exact PD.divOk_of (by omega)) ?_); simp -failIfUnchanged -dsimp -implicitDefEqProofs only [↓PD.Wa, PD.Wb0, PD.Wb1, PD.Wb2, PD.Wb3, PD.Wb4, PD.Wb5, PD.lim, PD.smallI, List.getD_cons_zero, List.getD_cons_succ, List.flatten_cons, List.flatten_nil, PD.setMany, Int.toNat_natCast, List.getElem?_cons_zero, List.getElem?_cons_succ, List.set_cons_zero, List.set_cons_succ, List.length_cons, List.length_nil, List.length_map, List.length_append, List.length_reverse, List.length_replicate, List.length_range, List.nil_append, List.append_nil, List.cons_append, Nat.zero_add, Nat.add_zero, Bool.not_true, Bool.not_false, if_true, if_false, ite_true, ite_false, decide_true, decide_false, Bool.and_true, Bool.true_and, Bool.and_false, Bool.false_and, Option.toList_none, Option.toList_some, Option.bind_some, List.replicate_zero, List.replicate_succ, List.map_nil, List.map_cons, Nat.reduceSub, Nat.reduceAdd, Nat.reduceMul, Nat.reduceLeDiff, Nat.reduceLT, Nat.reduceEqDiff, Int.reduceLE, Int.reduceLT, Int.reduceNeg, Int.reduceMul, Int.reduceAdd, Int.reduceSub, Int.reducePow, Int.reduceToNat, Int.reduceEq, true_and, and_true, eq_self, Int.zero_add, Bool.false_eq_true]))
    by_cases h0 : i = 0 <;> simp -failIfUnchanged -dsimp -implicitDefEqProofs only [↓PD.Wa, PD.Wb0, PD.Wb1, PD.Wb2, PD.Wb3, PD.Wb4, PD.Wb5, PD.lim, PD.smallI, List.getD_cons_zero, List.getD_cons_succ, List.flatten_cons, List.flatten_nil, PD.setMany, Int.toNat_natCast, List.getElem?_cons_zero, List.getElem?_cons_succ, List.set_cons_zero, List.set_cons_succ, List.length_cons, List.length_nil, List.length_map, List.length_append, List.length_reverse, List.length_replicate, List.length_range, List.nil_append, List.append_nil, List.cons_append, Nat.zero_add, Nat.add_zero, Bool.not_true, Bool.not_false, if_true, if_false, ite_true, ite_false, decide_true, decide_false, Bool.and_true, Bool.true_and, Bool.and_false, Bool.false_and, Option.toList_none, Option.toList_some, Option.bind_some, List.replicate_zero, List.replicate_succ, List.map_nil, List.map_cons, Nat.reduceSub, Nat.reduceAdd, Nat.reduceMul, Nat.reduceLeDiff, Nat.reduceLT, Nat.reduceEqDiff, Int.reduceLE, Int.reduceLT, Int.reduceNeg, Int.reduceMul, Int.reduceAdd, Int.reduceSub, Int.reducePow, Int.reduceToNat, Int.reduceEq, true_and, and_true, eq_self, Int.zero_add, Bool.false_eq_true, h0] <;> simp [h0]
  rw [sgs_filt]
  (simp -failIfUnchanged -dsimp -implicitDefEqProofs only [↓PD.Wa, PD.Wb0, PD.Wb1, PD.Wb2, PD.Wb3, PD.Wb4, PD.Wb5, PD.lim, PD.smallI, List.getD_cons_zero, List.getD_cons_succ, List.flatten_cons, List.flatten_nil, PD.setMany, Int.toNat_natCast, List.getElem?_cons_zero, List.getElem?_cons_succ, List.set_cons_zero, List.set_cons_succ, List.length_cons, List.length_nil, List.length_map, List.length_append, List.length_reverse, List.length_replicate, List.length_range, List.nil_append, List.append_nil, List.cons_append, Nat.zero_add, Nat.add_zero, Bool.not_true, Bool.not_false, if_true, if_false, ite_true, ite_false, decide_true, decide_false, Bool.and_true, Bool.true_and, Bool.and_false, Bool.false_and, Option.toList_none, Option.toList_some, Option.bind_some, List.replicate_zero, List.replicate_succ, List.map_nil, List.map_cons, Nat.reduceSub, Nat.reduceAdd, Nat.reduceMul, Nat.reduceLeDiff, Nat.reduceLT, Nat.reduceEqDiff, Int.reduceLE, Int.reduceLT, Int.reduceNeg, Int.reduceMul, Int.reduceAdd, Int.reduceSub, Int.reducePow, Int.reduceToNat, Int.reduceEq, true_and, and_true, eq_self, Int.zero_add, Bool.false_eq_true]; repeat ((refine wp_must (by first | (simp only [Bool.and_eq_true, decide_eq_true_eq, List.length_map, List.length_append, List.length_replicate, List.length_cons, List.length_nil]; omega) | exact mulOk_r (by omega) (by omega) | exact mulOk_l (by omega) (by omega) | exact PD.divOk_of (by omega)) ?_); simp -failIfUnchanged -dsimp -implicitDefEqProofs only [↓PD.Wa, PD.Wb0, PD.Wb1, PD.Wb2, PD.Wb3, PD.Wb4, PD.Wb5, PD.lim, PD.smallI, List.getD_cons_zero, List.getD_cons_succ, List.flatten_cons, List.flatten_nil, PD.setMany, Int.toNat_natCast, List.getElem?_cons_zero, List.getElem?_cons_succ, List.set_cons_zero, List.set_cons_succ, List.length_cons, List.length_nil, List.length_map, List.length_append, List.length_reverse, List.length_replicate, List.length_range, List.nil_append, List.append_nil, List.cons_append, Nat.zero_add, Nat.add_zero, Bool.not_true, Bool.not_false, if_true, if_false, ite_true, ite_false, decide_true, decide_false, Bool.and_true, Bool.true_and, Bool.and_false, Bool.false_and, Option.toList_none, Option.toList_some, Option.bind_some, List.replicate_zero, List.replicate_succ, List.map_nil, List.map_cons, Nat.reduceSub, Nat.reduceAdd, Nat.reduceMul, Nat.reduceLeDiff, Nat.reduceLT, Nat.reduceEqDiff, Int.reduceLE, Int.reduceLT, Int.reduceNeg, Int.reduceMul, Int.reduceAdd, Int.reduceSub, Int.reducePow, Int.reduceToNat, Int.reduceEq, true_and, and_true, eq_self, Int.zero_add, Bool.false_eq_true]))
  rw [cut_from _ (by decide)]
  refine wp_filt (fun x : Bool × Bool => .tup [.bl x.1, .bl x.2]) (fun x => !decide (x.1 = x.2)) (fun x => .bl x.1) ((sgs a).zip ((sgs a).drop 1)) (zipL_map D.bl D.bl _ _) rfl (fun x hx => ?_) ?_
  · (simp -failIfUnchanged -dsimp -implicitDefEqProofs only [↓PD.Wa, PD.Wb0, PD.Wb1, PD.Wb2, PD.Wb3, PD.Wb4, PD.Wb5, PD.lim, PD.smallI, List.getD_cons_zero, List.getD_cons_succ, List.flatten_cons, List.flatten_nil, PD.setMany, Int.toNat_natCast, List.getElem?_cons_zero, List.getElem?_cons_succ, List.set_cons_zero, List.set_cons_succ, List.length_cons, List.length_nil, List.length_map, List.length_append, List.length_reverse, List.length_replicate, List.length_range, List.nil_append, List.append_nil, List.cons_append, Nat.zero_add, Nat.add_zero, Bool.not_true, Bool.not_false, if_true, if_false, ite_true, ite_false, decide_true, decide_false, Bool.and_true, Bool.true_and, Bool.and_false, Bool.false_and, Option.toList_none, Option.toList_some, Option.bind_some, List.replicate_zero, List.replicate_succ, List.map_nil, List.map_cons, Nat.reduceSub, Nat.reduceAdd, Nat.reduceMul, Nat.reduceLeDiff, Nat.reduceLT, Nat.reduceEqDiff, Int.reduceLE, Int.reduceLT, Int.reduceNeg, Int.reduceMul, Int.reduceAdd, Int.reduceSub, Int.reducePow, Int.reduceToNat, Int.reduceEq, true_and, and_true, eq_self, Int.zero_add, Bool.false_eq_true]; repeat ((refine wp_must (by first | (simp only [Bool.and_eq_true, decide_eq_true_eq, List.length_map, List.length_append, List.length_replicate, List.length_cons, List.length_nil]; omega) | exact mulOk_r (by omega) (by omega) | exact mulOk_l (by omega) (by omega) | exact PD.divOk_of (by omega)) ?_); simp -failIfUnchanged -dsimp -implicitDefEqProofs only [↓PD.Wa, PD.Wb0, PD.Wb1, PD.Wb2, PD.Wb3, PD.Wb4, PD.Wb5, PD.lim, PD.smallI, List.getD_cons_zero, List.getD_cons_succ, List.flatten_cons, List.flatten_nil, PD.setMany, Int.toNat_natCast, List.getElem?_cons_zero, List.getElem?_cons_succ, List.set_cons_zero, List.set_cons_succ, List.length_cons, List.length_nil, List.length_map, List.length_append, List.length_reverse, List.length_replicate, List.length_range, List.nil_append, List.append_nil, List.cons_append, Nat.zero_add, Nat.add_zero, Bool.not_true, Bool.not_false, if_true, if_false, ite_true, ite_false, decide_true, decide_false, Bool.and_true, Bool.true_and, Bool.and_false, Bool.false_and, Option.toList_none, Option.toList_some, Option.bind_some, List.replicate_zero, List.replicate_succ, List.map_nil, List.map_cons, Nat.reduceSub, Nat.reduceAdd, Nat.reduceMul, Nat.reduceLeDiff, Nat.reduceLT, Nat.reduceEqDiff, Int.reduceLE, Int.reduceLT, Int.reduceNeg, Int.reduceMul, Int.reduceAdd, Int.reduceSub, Int.reducePow, Int.reduceToNat, Int.reduceEq, true_and, and_true, eq_self, Int.zero_add, Bool.false_eq_true]))
    refine wp_sel (fun h0 => ?_) fun h0 => ?_ <;> (simp -failIfUnchanged -dsimp -implicitDefEqProofs only [↓PD.Wa, PD.Wb0, PD.Wb1, PD.Wb2, PD.Wb3, PD.Wb4, PD.Wb5, PD.lim, PD.smallI, List.getD_cons_zero, List.getD_cons_succ, List.flatten_cons, List.flatten_nil, PD.setMany, Int.toNat_natCast, List.getElem?_cons_zero, List.getElem?_cons_succ, List.set_cons_zero, List.set_cons_succ, List.length_cons, List.length_nil, List.length_map, List.length_append, List.length_reverse, List.length_replicate, List.length_range, List.nil_append, List.append_nil, List.cons_append, Nat.zero_add, Nat.add_zero, Bool.not_true, Bool.not_false, if_true, if_false, ite_true, ite_false, decide_true, decide_false, Bool.and_true, Bool.true_and, Bool.and_false, Bool.false_and, Option.toList_none, Option.toList_some, Option.bind_some, List.replicate_zero, List.replicate_succ, List.map_nil, List.map_cons, Nat.reduceSub, Nat.reduceAdd, Nat.reduceMul, Nat.reduceLeDiff, Nat.reduceLT, Nat.reduceEqDiff, Int.reduceLE, Int.reduceLT, Int.reduceNeg, Int.reduceMul, Int.reduceAdd, Int.reduceSub, Int.reducePow, Int.reduceToNat, Int.reduceEq, true_and, and_true, eq_self, Int.zero_add, Bool.false_eq_true, h0]; repeat ((refine wp_must (by first | (simp only [Bool.and_eq_true, decide_eq_true_eq, List.length_map, List.length_append, List.length_replicate, List.length_cons, List.length_nil]; omega) | exact mulOk_r (by omega) (by omega) | exact mulOk_l (by omega) (by omega) | exact PD.divOk_of (by omega)) ?_); simp -failIfUnchanged -dsimp -implicitDefEqProofs only [↓PD.Wa, PD.Wb0, PD.Wb1, PD.Wb2, PD.Wb3, PD.Wb4, PD.Wb5, PD.lim, PD.smallI, List.getD_cons_zero, List.getD_cons_succ, List.flatten_cons, List.flatten_nil, PD.setMany, Int.toNat_natCast, List.getElem?_cons_zero, List.getElem?_cons_succ, List.set_cons_zero, List.set_cons_succ, List.length_cons, List.length_nil, List.length_map, List.length_append, List.length_reverse, List.length_replicate, List.length_range, List.nil_append, List.append_nil, List.cons_append, Nat.zero_add, Nat.add_zero, Bool.not_true, Bool.not_false, if_true, if_false, ite_true, ite_false, decide_true, decide_false, Bool.and_true, Bool.true_and, Bool.and_false, Bool.false_and, Option.toList_none, Option.toList_some, Option.bind_some, List.replicate_zero, List.replicate_succ, List.map_nil, List.map_cons, Nat.reduceSub, Nat.reduceAdd, Nat.reduceMul, Nat.reduceLeDiff, Nat.reduceLT, Nat.reduceEqDiff, Int.reduceLE, Int.reduceLT, Int.reduceNeg, Int.reduceMul, Int.reduceAdd, Int.reduceSub, Int.reducePow, Int.reduceToNat, Int.reduceEq, true_and, and_true, eq_self, Int.zero_add, Bool.false_eq_true, h0]))
  · have e := trn_filt (sgs a)
    rw [List.length_map] at e
    (simp -failIfUnchanged -dsimp -implicitDefEqProofs only [↓PD.Wa, PD.Wb0, PD.Wb1, PD.Wb2, PD.Wb3, PD.Wb4, PD.Wb5, PD.lim, PD.smallI, List.getD_cons_zero, List.getD_cons_succ, List.flatten_cons, List.flatten_nil, PD.setMany, Int.toNat_natCast, List.getElem?_cons_zero, List.getElem?_cons_succ, List.set_cons_zero, List.set_cons_succ, List.length_cons, List.length_nil, List.length_map, List.length_append, List.length_reverse, List.length_replicate, List.length_range, List.nil_append, List.append_nil, List.cons_append, Nat.zero_add, Nat.add_zero, Bool.not_true, Bool.not_false, if_true, if_false, ite_true, ite_false, decide_true, decide_false, Bool.and_true, Bool.true_and, Bool.and_false, Bool.false_and, Option.toList_none, Option.toList_some, Option.bind_some, List.replicate_zero, List.replicate_succ, List.map_nil, List.map_cons, Nat.reduceSub, Nat.reduceAdd, Nat.reduceMul, Nat.reduceLeDiff, Nat.reduceLT, Nat.reduceEqDiff, Int.reduceLE, Int.reduceLT, Int.reduceNeg, Int.reduceMul, Int.reduceAdd, Int.reduceSub, Int.reducePow, Int.reduceToNat, Int.reduceEq, true_and, and_true, eq_self, Int.zero_add, Bool.false_eq_true, e]; repeat ((refine wp_must (by first | (simp only [Bool.and_eq_true, decide_eq_true_eq, List.length_map, List.length_append, List.length_replicate, List.length_cons, List.length_nil]; omega) | exact mulOk_r (by omega) (by omega) | exact mulOk_l (by omega) (by omega) | exact PD.divOk_of (by omega)) ?_); simp -failIfUnchanged -dsimp -implicitDefEqProofs only [↓PD.Wa, PD.Wb0, PD.Wb1, PD.Wb2, PD.Wb3, PD.Wb4, PD.Wb5, PD.lim, PD.smallI, List.getD_cons_zero, List.getD_cons_succ, List.flatten_cons, List.flatten_nil, PD.setMany, Int.toNat_natCast, List.getElem?_cons_zero, List.getElem?_cons_succ, List.set_cons_zero, List.set_cons_succ, List.length_cons, List.length_nil, List.length_map, List.length_append, List.length_reverse, List.length_replicate, List.length_range, List.nil_append, List.append_nil, List.cons_append, Nat.zero_add, Nat.add_zero, Bool.not_true, Bool.not_false, if_true, if_false, ite_true, ite_false, decide_true, decide_false, Bool.and_true, Bool.true_and, Bool.and_false, Bool.false_and, Option.toList_none, Option.toList_some, Option.bind_some, List.replicate_zero, List.replicate_succ, List.map_nil, List.map_cons, Nat.reduceSub, Nat.reduceAdd, Nat.reduceMul, Nat.reduceLeDiff, Nat.reduceLT, Nat.reduceEqDiff, Int.reduceLE, Int.reduceLT, Int.reduceNeg, Int.reduceMul, Int.reduceAdd, Int.reduceSub, Int.reducePow, Int.reduceToNat, Int.reduceEq, true_and, and_true, eq_self, Int.zero_add, Bool.false_eq_true, e]))
    exact hq
end PD

namespace G05
open PySem PySem.Spec PyProof.Rows L2 PD
/-- sum_of -/
def n0 : List Str := [Str.ofString "one", Str.ofString "other", Str.ofString "rest", Str.ofString "longer", Str.ofString "shorter", Str.ofString "here", Str.ofString "there"]
def x0_0 : E := (E.ite (E.cmp .gt (E.bi .len (E.cons (E.var 0) E.nil)) (E.bi .len (E.cons (E.var 1) E.nil))) (E.tup (E.cons (E.var 0) (E.cons (E.var 1) E.nil))) (E.tup (E.cons (E.var 1) (E.cons (E.var 0) E.nil))))
def y0_1 : S := S.unp [3, 4] x0_0
def x0_2 : E := (E.slc (E.var 3) true (E.bi .len (E.cons (E.var 4) E.nil)) false E.nil)
def y0_3 : S := S.set 2 x0_2
def x0_4 : E := (E.tup (E.star (E.comp (E.bin .add (E.var 5) (E.var 6)) (.tp [5, 6]) (E.zip (E.var 3) (E.var 4)) (E.cst (D.bl true)) [5, 6]) (E.star (E.var 2) E.nil)))
def y0_5 : S := S.ret x0_4
def k0_6 : S := (S.seq y0_1 (S.seq y0_3 (S.seq y0_5 S.skip)))
def b0 : S := k0_6
def f0 : Fn := { np := 2, ns := 7, body := b0 }
/-- turns_of_sign -/
def n1 : List Str := [Str.ofString "row", Str.ofString "signs", Str.ofString "number", Str.ofString "here", Str.ofString "there"]
def x1_0 : E := (E.comp (E.cmp .gt (E.var 2) (E.cst (D.int 0))) (.nm 2) (E.itv (E.var 0)) (E.cmp .ne (E.var 2) (E.cst (D.int 0))) [2])
def y1_1 : S := S.set 1 x1_0
def x1_2 : E := (E.bi .len (E.cons (E.comp (E.var 3) (.tp [3, 4]) (E.zip (E.var 1) (E.slc (E.var 1) true (E.cst (D.int 1)) false E.nil)) (E.cmp .ne (E.var 3) (E.var 4)) [3, 4]) E.nil))
def y1_3 : S := S.ret x1_2
def k1_4 : S := (S.seq y1_1 (S.seq y1_3 S.skip))
def b1 : S := k1_4
def f1 : Fn := { np := 1, ns := 5, body := b1 }
/-- changes -/
def n2 : List Str := [Str.ofString "row"]
def x2_0 : E := (E.call 1 (E.cons (E.var 0) E.nil))
def y2_1 : S := S.ret x2_0
def k2_2 : S := (S.seq y2_1 S.skip)
def b2 : S := k2_2
def f2 : Fn := { np := 1, ns := 1, body := b2 }
/-- differences -/
def n3 : List Str := [Str.ofString "row", Str.ofString "ahead", Str.ofString "here"]
def x3_0 : E := (E.cmp .eq (E.var 0) (E.tup E.nil))
def x3_1 : E := (E.tup E.nil)
def y3_2 : S := S.ret x3_1
def k3_3 : S := (S.seq y3_2 S.skip)
def k3_4 : S := S.skip
def y3_5 : S := S.ite x3_0 k3_3 k3_4
def x3_6 : E := (E.bi .tuple (E.cons (E.comp (E.bin .sub (E.var 2) (E.var 1)) (.tp [1, 2]) (E.zip (E.tup (E.cons (E.cst (D.int 0)) (E.star (E.var 0) E.nil))) (E.tup (E.star (E.var 0) (E.cons (E.cst (D.int 0)) E.nil)))) (E.cst (D.bl true)) [1, 2]) E.nil))
def y3_7 : S := S.ret x3_6
def k3_8 : S := (S.seq y3_5 (S.seq y3_7 S.skip))
def b3 : S := k3_8
def f3 : Fn := { np := 1, ns := 3, body := b3 }
/-- peaks -/
def n4 : List Str := [Str.ofString "row"]
def x4_0 : E := (E.call 1 (E.cons (E.call 3 (E.cons (E.var 0) E.nil)) E.nil))
def y4_1 : S := S.ret x4_0
def k4_2 : S := (S.seq y4_1 S.skip)
def b4 : S := k4_2
def f4 : Fn := { np := 1, ns := 1, body := b4 }
/-- _law_deck -/
def n5 : List Str := [Str.ofString "_law_script", Str.ofString "_law_cell", Str.ofString "_law_cells", Str.ofString "_law_mixed"]
def x5_0 : E := (E.bi .list (E.cons (E.slc (E.var 0) false E.nil true (E.cst (D.int 63))) E.nil))
def x5_1 : E := (E.cst (D.int 88760655))
def y5_2 : S := S.unp [2, 3] (E.tup (E.cons x5_0 (E.cons x5_1 E.nil)))
def x5_3 : E := (E.itv (E.var 2))
def x5_4 : E := (E.bin .mod (E.bi .int (E.cons (E.bin .add (E.bin .add (E.bin .mul (E.var 3) (E.cst (D.int 40014))) (E.bin .mod (E.bi .int (E.cons (E.var 1) E.nil)) (E.cst (D.int 2147483563)))) (E.cst (D.int 65))) E.nil)) (E.cst (D.int 2147483647)))
def y5_5 : S := S.set 3 x5_4
def k5_6 : S := (S.seq y5_5 S.skip)
def y5_7 : S := S.loop (.nm 1) x5_3 k5_6
def x5_8 : E := (E.newd [.inr (Str.ofString "cells"), .inr (Str.ofString "mixed"), .inr (Str.ofString "draws")] (E.cons (E.newl (E.rev (E.var 2))) (E.cons (E.var 3) (E.cons (E.cst (D.int 0)) E.nil))))
def y5_9 : S := S.ret x5_8
def k5_10 : S := (S.seq y5_2 (S.seq y5_7 (S.seq y5_9 S.skip)))
def b5 : S := k5_10
def f5 : Fn := { np := 1, ns := 4, body := b5, keep := true }
/-- _law_draw -/
def n6 : List Str := [Str.ofString "_law_deck_here", Str.ofString "_law_below", Str.ofString "_law_pot", Str.ofString "_law_turn", Str.ofString "_law_cell"]
def x6_0 : E := (E.bin .add (E.key (E.var 0) (Str.ofString "draws")) (E.cst (D.int 1)))
def y6_1 : S := S.stk (E.var 0) (Str.ofString "draws") x6_0
def x6_2 : E := (E.key (E.var 0) (Str.ofString "draws"))
def x6_3 : E := (E.key (E.var 0) (Str.ofString "mixed"))
def y6_4 : S := S.unp [3, 2] (E.tup (E.cons x6_2 (E.cons x6_3 E.nil)))
def x6_5 : E := (E.cmp .ne (E.key (E.var 0) (Str.ofString "cells")) (E.lst E.nil))
def x6_6 : E := (E.mth .pop (E.key (E.var 0) (Str.ofString "cells")) E.nil)
def y6_7 : S := S.set 4 x6_6
def x6_8 : E := (E.cmp .ge (E.var 4) (E.bin .pow (E.cst (D.int 10)) (E.cst (D.int 18))))
def x6_9 : E := (E.mth .append (E.key (E.var 0) (Str.ofString "cells")) (E.cons (E.bin .fdiv (E.var 4) (E.var 1)) E.nil))
def y6_10 : S := S.exp x6_9
def x6_11 : E := (E.bin .mod (E.bi .int (E.cons (E.var 4) E.nil)) (E.var 1))
def y6_12 : S := S.ret x6_11
def k6_13 : S := (S.seq y6_10 (S.seq y6_12 S.skip))
def k6_14 : S := S.skip
def y6_15 : S := S.ite x6_8 k6_13 k6_14
def x6_16 : E := (E.bin .add (E.var 2) (E.bi .int (E.cons (E.var 4) E.nil)))
def y6_17 : S := S.set 2 x6_16
def k6_18 : S := (S.seq y6_7 (S.seq y6_15 (S.seq y6_17 S.skip)))
def k6_19 : S := S.skip
def y6_20 : S := S.ite x6_5 k6_18 k6_19
def x6_21 : E := (E.bin .mul (E.bi .int (E.cons (E.bin .add (E.bin .add (E.bin .mod (E.bi .int (E.cons (E.var 2) E.nil)) (E.cst (D.int 2147483587))) (E.bin .mul (E.bin .mul (E.cst (D.int 60065)) (E.var 3)) (E.var 3))) (E.cst (D.int 45))) E.nil)) (E.cst (D.int 48271)))
def y6_22 : S := S.set 2 x6_21
def x6_23 : E := (E.bin .mod (E.bi .int (E.cons (E.var 2) E.nil)) (E.cst (D.int 2147483629)))
def y6_24 : S := S.set 2 x6_23
def x6_25 : E := (E.bin .mod (E.bi .int (E.cons (E.bin .add (E.bin .add (E.bin .mul (E.var 2) (E.var 2)) (E.bin .mul (E.cst (D.int 69621)) (E.var 3))) (E.cst (D.int 5))) E.nil)) (E.cst (D.int 2147483543)))
def y6_26 : S := S.set 2 x6_25
def x6_27 : E := (E.bin .mod (E.bin .fdiv (E.bin .mod (E.bi .int (E.cons (E.bin .mul (E.var 2) (E.cst (D.int 39373))) E.nil)) (E.cst (D.int 2147483563))) (E.cst (D.int 64))) (E.var 1))
def y6_28 : S := S.ret x6_27
def k6_29 : S := (S.seq y6_1 (S.seq y6_4 (S.seq y6_20 (S.seq y6_22 (S.seq y6_24 (S.seq y6_26 (S.seq y6_28 S.skip)))))))
def b6 : S := k6_29
def f6 : Fn := { np := 2, ns := 5, body := b6 }
/-- _law_pick -/
def n7 : List Str := [Str.ofString "_law_deck_here", Str.ofString "_law_some"]
def x7_0 : E := (E.idx (E.var 1) (E.call 6 (E.cons (E.var 0) (E.cons (E.bi .len (E.cons (E.var 1) E.nil)) E.nil))))
def y7_1 : S := S.ret x7_0
def k7_2 : S := (S.seq y7_1 S.skip)
def b7 : S := k7_2
def f7 : Fn := { np := 2, ns := 2, body := b7 }
/-- _law_line -/
def n8 : List Str := [Str.ofString "_law_deck_here", Str.ofString "_law_most", Str.ofString "_law_found", Str.ofString "_law_k"]
def x8_0 : E := (E.newl (E.lst E.nil))
def y8_1 : S := S.set 2 x8_0
def x8_2 : E := (E.rng (E.cons (E.call 6 (E.cons (E.var 0) (E.cons (E.bin .add (E.var 1) (E.cst (D.int 1))) E.nil))) E.nil))
def x8_3 : E := (E.mth .append (E.var 2) (E.cons (E.call 7 (E.cons (E.var 0) (E.cons (E.lst (E.cons (E.cst (D.int 0)) (E.cons (E.cst (D.int 0)) (E.cons (E.cst (D.int 1)) (E.cons (E.neg (E.cst (D.int 1))) (E.cons (E.cst (D.int 2)) (E.cons (E.neg (E.cst (D.int 3))) (E.cons (E.cst (D.int 7)) (E.cons (E.neg (E.bin .pow (E.cst (D.int 10)) (E.cst (D.int 9)))) (E.cons (E.bin .pow (E.cst (D.int 10)) (E.cst (D.int 9))) (E.cons (E.cst (D.int 999999937)) E.nil))))))))))) E.nil))) E.nil))
def y8_4 : S := S.exp x8_3
def k8_5 : S := (S.seq y8_4 S.skip)
def y8_6 : S := S.loop (.nm 3) x8_2 k8_5
def x8_7 : E := (E.bi .tuple (E.cons (E.var 2) E.nil))
def y8_8 : S := S.ret x8_7
def k8_9 : S := (S.seq y8_1 (S.seq y8_6 (S.seq y8_8 S.skip)))
def b8 : S := k8_9
def f8 : Fn := { np := 2, ns := 4, body := b8 }
/-- _law_less -/
def n9 : List Str := [Str.ofString "_law_run", Str.ofString "_law_found", Str.ofString "_law_k"]
def x9_0 : E := (E.ite (E.cmp .ne (E.var 0) (E.tup E.nil)) (E.newl (E.lst (E.cons (E.idx (E.var 0) (E.cst (D.int 0))) E.nil))) (E.newl (E.lst E.nil)))
def y9_1 : S := S.set 1 x9_0
def x9_2 : E := (E.rng (E.cons (E.cst (D.int 1)) (E.cons (E.bi .len (E.cons (E.var 0) E.nil)) E.nil)))
def x9_3 : E := (E.mth .append (E.var 1) (E.cons (E.bin .sub (E.idx (E.var 0) (E.var 2)) (E.idx (E.var 0) (E.bin .sub (E.var 2) (E.cst (D.int 1))))) E.nil))
def y9_4 : S := S.exp x9_3
def k9_5 : S := (S.seq y9_4 S.skip)
def y9_6 : S := S.loop (.nm 2) x9_2 k9_5
def x9_7 : E := (E.bi .tuple (E.cons (E.bin .add (E.var 1) (E.ite (E.cmp .ne (E.var 0) (E.tup E.nil)) (E.lst (E.cons (E.bin .sub (E.cst (D.int 0)) (E.idx (E.var 0) (E.neg (E.cst (D.int 1))))) E.nil)) (E.lst E.nil))) E.nil))
def y9_8 : S := S.ret x9_7
def k9_9 : S := (S.seq y9_1 (S.seq y9_6 (S.seq y9_8 S.skip)))
def b9 : S := k9_9
def f9 : Fn := { np := 1, ns := 3, body := b9 }
/-- _law_turns -/
def n10 : List Str := [Str.ofString "_law_run", Str.ofString "_law_height", Str.ofString "_law_found", Str.ofString "_law_last", Str.ofString "_law_way", Str.ofString "_law_step"]
def x10_0 : E := (E.cst (D.int 0))
def x10_1 : E := (E.cst (D.int 0))
def x10_2 : E := (E.cst (D.int 0))
def y10_3 : S := S.unp [2, 3, 4] (E.tup (E.cons x10_0 (E.cons x10_1 (E.cons x10_2 E.nil))))
def x10_4 : E := (E.itv (E.bin .add (E.bi .list (E.cons (E.var 0) E.nil)) (E.lst (E.cons (E.cst (D.int 0)) E.nil))))
def x10_5 : E := (E.cmp .ne (E.var 1) (E.var 3))
def x10_6 : E := (E.ite (E.cmp .gt (E.var 1) (E.var 3)) (E.cst (D.int 1)) (E.neg (E.cst (D.int 1))))
def y10_7 : S := S.set 5 x10_6
def x10_8 : E := (E.bin .add (E.var 2) (E.bi .int (E.cons (E.and (E.cmp .ne (E.var 4) (E.cst (D.int 0))) (E.one (E.cmp .ne (E.var 5) (E.var 4)))) E.nil)))
def y10_9 : S := S.set 2 x10_8
def x10_10 : E := (E.var 5)
def y10_11 : S := S.set 4 x10_10
def k10_12 : S := (S.seq y10_7 (S.seq y10_9 (S.seq y10_11 S.skip)))
def k10_13 : S := S.skip
def y10_14 : S := S.ite x10_5 k10_12 k10_13
def x10_15 : E := (E.var 1)
def y10_16 : S := S.set 3 x10_15
def k10_17 : S := (S.seq y10_14 (S.seq y10_16 S.skip))
def y10_18 : S := S.loop (.nm 1) x10_4 k10_17
def x10_19 : E := (E.var 2)
def y10_20 : S := S.ret x10_19
def k10_21 : S := (S.seq y10_3 (S.seq y10_18 (S.seq y10_20 S.skip)))
def b10 : S := k10_21
def f10 : Fn := { np := 1, ns := 6, body := b10 }
/-- _law_hills -/
def n11 : List Str := [Str.ofString "_law_deck_here", Str.ofString "_law_k", Str.ofString "_law_found", Str.ofString "_law_height", Str.ofString "_law_step", Str.ofString "_law_j"]
def x11_0 : E := (E.newl (E.lst E.nil))
def x11_1 : E := (E.cst (D.int 0))
def y11_2 : S := S.unp [2, 3] (E.tup (E.cons x11_0 (E.cons x11_1 E.nil)))
def x11_3 : E := (E.rng (E.cons (E.call 6 (E.cons (E.var 0) (E.cons (E.cst (D.int 8)) E.nil))) E.nil))
def x11_4 : E := (E.call 7 (E.cons (E.var 0) (E.cons (E.lst (E.cons (E.cst (D.int 1)) (E.cons (E.cst (D.int 3)) (E.cons (E.neg (E.cst (D.int 2))) (E.cons (E.neg (E.cst (D.int 5))) (E.cons (E.cst (D.int 0)) (E.cons (E.bin .pow (E.cst (D.int 10)) (E.cst (D.int 7))) E.nil))))))) E.nil)))
def y11_5 : S := S.set 4 x11_4
def x11_6 : E := (E.rng (E.cons (E.bin .add (E.cst (D.int 1)) (E.call 6 (E.cons (E.var 0) (E.cons (E.cst (D.int 4)) E.nil)))) E.nil))
def x11_7 : E := (E.bin .add (E.var 3) (E.var 4))
def y11_8 : S := S.set 3 x11_7
def x11_9 : E := (E.mth .append (E.var 2) (E.cons (E.var 3) E.nil))
def y11_10 : S := S.exp x11_9
def k11_11 : S := (S.seq y11_8 (S.seq y11_10 S.skip))
def y11_12 : S := S.loop (.nm 5) x11_6 k11_11
def k11_13 : S := (S.seq y11_5 (S.seq y11_12 S.skip))
def y11_14 : S := S.loop (.nm 1) x11_3 k11_13
def x11_15 : E := (E.bi .tuple (E.cons (E.var 2) E.nil))
def y11_16 : S := S.ret x11_15
def k11_17 : S := (S.seq y11_2 (S.seq y11_14 (S.seq y11_16 S.skip)))
def b11 : S := k11_17
def f11 : Fn := { np := 1, ns := 6, body := b11 }
/-- _law_right -/
def n12 : List Str := [Str.ofString "_law_run", Str.ofString "_law_far", Str.ofString "_law_told", Str.ofString "_law_seen", Str.ofString "_law_due", Str.ofString "_law_top", Str.ofString "_law_it"]
def x12_0 : E := (E.bi .repr (E.cons (E.var 0) E.nil))
def x12_1 : E := (E.call 9 (E.cons (E.var 0) E.nil))
def x12_2 : E := (E.call 10 (E.cons (E.var 0) E.nil))
def y12_3 : S := S.unp [3, 4, 5] (E.tup (E.cons x12_0 (E.cons x12_1 (E.cons x12_2 E.nil))))
def x12_4 : E := (E.newl (E.lst (E.cons (E.call 3 (E.cons (E.var 0) E.nil)) (E.cons (E.callk 3 (E.cons (E.var 0) E.nil) [Str.ofString "row"] [0]) E.nil))))
def y12_5 : S := S.set 2 x12_4
def x12_6 : E := (E.or (E.cmp .ne (E.bi .repr (E.cons (E.var 2) E.nil)) (E.bi .repr (E.cons (E.lst (E.cons (E.var 4) (E.cons (E.var 4) E.nil))) E.nil))) (E.or (E.cmp .ne (E.bi .sum (E.cons (E.var 4) E.nil)) (E.cst (D.int 0))) (E.one (E.cmp .ne (E.bi .len (E.cons (E.var 4) E.nil)) (E.bin .add (E.bi .len (E.cons (E.var 0) E.nil)) (E.bi .int (E.cons (E.cmp .ne (E.var 0) (E.tup E.nil)) E.nil)))))))
def x12_7 : E := (E.cst (D.bl false))
def y12_8 : S := S.ret x12_7
def k12_9 : S := (S.seq y12_8 S.skip)
def k12_10 : S := S.skip
def y12_11 : S := S.ite x12_6 k12_9 k12_10
def x12_12 : E := (E.newl (E.lst (E.cons (E.call 4 (E.cons (E.var 0) E.nil)) (E.cons (E.callk 4 (E.cons (E.var 0) E.nil) [Str.ofString "row"] [0]) (E.cons (E.call 4 (E.cons (E.rev (E.var 0)) E.nil)) (E.cons (E.call 4 (E.cons (E.bi .tuple (E.cons (E.comp (E.bin .mul (E.var 1) (E.var 6)) (.nm 6) (E.itv (E.var 0)) (E.cst (D.bl true)) [6]) E.nil)) E.nil)) E.nil))))))
def y12_13 : S := S.set 2 x12_12
def x12_14 : E := (E.mth .append (E.var 2) (E.cons (E.call 2 (E.cons (E.call 3 (E.cons (E.var 0) E.nil)) E.nil)) E.nil))
def y12_15 : S := S.exp x12_14
def x12_16 : E := (E.and (E.cmp .eq (E.bi .repr (E.cons (E.var 2) E.nil)) (E.bi .repr (E.cons (E.bin .mul (E.lst (E.cons (E.var 5) E.nil)) (E.cst (D.int 5))) E.nil))) (E.one (E.cmp .eq (E.bi .repr (E.cons (E.var 0) E.nil)) (E.var 3))))
def y12_17 : S := S.ret x12_16
def k12_18 : S := (S.seq y12_3 (S.seq y12_5 (S.seq y12_11 (S.seq y12_13 (S.seq y12_15 (S.seq y12_17 S.skip))))))
def b12 : S := k12_18
def f12 : Fn := { np := 2, ns := 7, body := b12 }
/-- law -/
def n13 : List Str := [Str.ofString "_law_script", Str.ofString "_law_deck_here", Str.ofString "_law_go", Str.ofString "_law_some", Str.ofString "_law_first", Str.ofString "_law_second", Str.ofString "_law_shorter", Str.ofString "_law_longer", Str.ofString "_law_run"]
def x13_0 : E := (E.call 5 (E.cons (E.var 0) E.nil))
def y13_1 : S := S.set 1 x13_0
def x13_2 : E := (E.rng (E.cons (E.cst (D.int 8)) E.nil))
def x13_3 : E := (E.call 11 (E.cons (E.var 1) E.nil))
def x13_4 : E := (E.call 8 (E.cons (E.var 1) (E.cons (E.cst (D.int 60)) E.nil)))
def y13_5 : S := S.unp [4, 5] (E.tup (E.cons x13_3 (E.cons x13_4 E.nil)))
def x13_6 : E := (E.or (E.not (E.call 12 (E.cons (E.var 4) (E.cons (E.call 7 (E.cons (E.var 1) (E.cons (E.lst (E.cons (E.neg (E.cst (D.int 1))) (E.cons (E.cst (D.int 3)) (E.cons (E.neg (E.cst (D.int 2))) E.nil)))) E.nil))) E.nil)))) (E.one (E.not (E.call 12 (E.cons (E.var 5) (E.cons (E.neg (E.cst (D.int 1))) E.nil))))))
def x13_7 : E := (E.cst (D.bl false))
def y13_8 : S := S.ret x13_7
def k13_9 : S := (S.seq y13_8 S.skip)
def k13_10 : S := S.skip
def y13_11 : S := S.ite x13_6 k13_9 k13_10
def x13_12 : E := (E.and (E.cmp .ne (E.var 4) (E.tup E.nil)) (E.one (E.cmp .ne (E.var 5) (E.tup E.nil))))
def x13_13 : E := (E.ite (E.cmp .gt (E.bi .len (E.cons (E.var 4) E.nil)) (E.bi .len (E.cons (E.var 5) E.nil))) (E.tup (E.cons (E.var 4) (E.cons (E.var 5) E.nil))) (E.tup (E.cons (E.var 5) (E.cons (E.var 4) E.nil))))
def y13_14 : S := S.unp [7, 6] x13_13
def x13_15 : E := (E.bin .add (E.var 6) (E.bin .mul (E.tup (E.cons (E.cst (D.int 0)) E.nil)) (E.bin .sub (E.bi .len (E.cons (E.var 7) E.nil)) (E.bi .len (E.cons (E.var 6) E.nil)))))
def y13_16 : S := S.set 6 x13_15
def x13_17 : E := (E.cmp .ne (E.call 3 (E.cons (E.call 0 (E.cons (E.var 4) (E.cons (E.var 5) E.nil))) E.nil)) (E.call 0 (E.cons (E.call 3 (E.cons (E.var 7) E.nil)) (E.cons (E.call 3 (E.cons (E.var 6) E.nil)) E.nil))))
def x13_18 : E := (E.cst (D.bl false))
def y13_19 : S := S.ret x13_18
def k13_20 : S := (S.seq y13_19 S.skip)
def k13_21 : S := S.skip
def y13_22 : S := S.ite x13_17 k13_20 k13_21
def k13_23 : S := (S.seq y13_14 (S.seq y13_16 (S.seq y13_22 S.skip)))
def k13_24 : S := S.skip
def y13_25 : S := S.ite x13_12 k13_23 k13_24
def k13_26 : S := (S.seq y13_5 (S.seq y13_11 (S.seq y13_25 S.skip)))
def y13_27 : S := S.loop (.nm 2) x13_2 k13_26
def x13_28 : E := (E.lst (E.cons (E.tup E.nil) (E.cons (E.tup (E.cons (E.cst (D.int 0)) E.nil)) (E.cons (E.tup (E.cons (E.cst (D.int 5)) E.nil)) (E.cons (E.tup (E.cons (E.neg (E.cst (D.int 5))) E.nil)) (E.cons (E.tup (E.cons (E.cst (D.int 1)) (E.cons (E.cst (D.int 2)) (E.cons (E.cst (D.int 1)) E.nil)))) (E.cons (E.tup (E.cons (E.cst (D.int 1)) (E.cons (E.cst (D.int 1)) E.nil))) (E.cons (E.tup (E.cons (E.cst (D.int 1)) (E.cons (E.neg (E.cst (D.int 1))) E.nil))) (E.cons (E.tup (E.cons (E.cst (D.int 0)) (E.cons (E.cst (D.int 2)) (E.cons (E.cst (D.int 5)) (E.cons (E.cst (D.int 3)) (E.cons (E.cst (D.int 4)) E.nil)))))) (E.cons (E.tup (E.cons (E.cst (D.int 0)) (E.cons (E.cst (D.int 0)) (E.cons (E.cst (D.int 3)) (E.cons (E.cst (D.int 3)) (E.cons (E.cst (D.int 0)) E.nil)))))) E.nil))))))))))
def y13_29 : S := S.set 3 x13_28
def x13_30 : E := (E.cmp .eq (E.comp (E.call 4 (E.cons (E.var 8) E.nil)) (.nm 8) (E.itv (E.var 3)) (E.cst (D.bl true)) [8]) (E.lst (E.cons (E.cst (D.int 0)) (E.cons (E.cst (D.int 0)) (E.cons (E.cst (D.int 1)) (E.cons (E.cst (D.int 1)) (E.cons (E.cst (D.int 1)) (E.cons (E.cst (D.int 1)) (E.cons (E.cst (D.int 2)) (E.cons (E.cst (D.int 3)) (E.cons (E.cst (D.int 1)) E.nil)))))))))))
def y13_31 : S := S.ret x13_30
def k13_32 : S := (S.seq y13_1 (S.seq y13_27 (S.seq y13_29 (S.seq y13_31 S.skip))))
def b13 : S := k13_32
def f13 : Fn := { np := 1, ns := 9, body := b13 }
def fns : List Fn := [f0, f1, f2, f3, f4, f5, f6, f7, f8, f9, f10, f11, f12, f13]
def gb : Gb := { fns := [(Str.ofString "sum_of", 0), (Str.ofString "turns_of_sign", 1), (Str.ofString "changes", 2), (Str.ofString "differences", 3), (Str.ofString "peaks", 4), (Str.ofString "_law_deck", 5), (Str.ofString "_law_draw", 6), (Str.ofString "_law_pick", 7), (Str.ofString "_law_line", 8), (Str.ofString "_law_less", 9), (Str.ofString "_law_turns", 10), (Str.ofString "_law_hills", 11), (Str.ofString "_law_right", 12), (Str.ofString "law", 13)], bis := [Str.ofString "len", Str.ofString "zip", Str.ofString "tuple", Str.ofString "list", Str.ofString "int", Str.ofString "range", Str.ofString "repr", Str.ofString "sum"], kbs := [(3, 0, [Str.ofString "row"], [0]), (4, 0, [Str.ofString "row"], [0])] }
def topS (i : Nat) : Stmt := PySem.Challenge.pw_nonewturns_k05_differences_and_peaks.main.body.getD i (.Pass ⟨0, 0, 0, 0⟩)
abbrev s0 : Stmt := topS 1
def p0 : List Str := [Str.ofString "one", Str.ofString "other"]
theorem c0 : chkB gb n0 b0 (C8.fnScope s0) (C8.fnBody s0) = true := by decide +kernel
theorem z0 : C8.scC n0 p0 (C8.fnScope s0) = true := by decide +kernel
abbrev s1 : Stmt := topS 2
def p1 : List Str := [Str.ofString "row"]
theorem c1 : chkB gb n1 b1 (C8.fnScope s1) (C8.fnBody s1) = true := by decide +kernel
theorem z1 : C8.scC n1 p1 (C8.fnScope s1) = true := by decide +kernel
abbrev s2 : Stmt := topS 3
def p2 : List Str := [Str.ofString "row"]
theorem c2 : chkB gb n2 b2 (C8.fnScope s2) (C8.fnBody s2) = true := by decide +kernel
theorem z2 : C8.scC n2 p2 (C8.fnScope s2) = true := by decide +kernel
abbrev s3 : Stmt := topS 4
def p3 : List Str := [Str.ofString "row"]
theorem c3 : chkB gb n3 b3 (C8.fnScope s3) (C8.fnBody s3) = true := by decide +kernel
theorem z3 : C8.scC n3 p3 (C8.fnScope s3) = true := by decide +kernel
abbrev s4 : Stmt := topS 5
def p4 : List Str := [Str.ofString "row"]
theorem c4 : chkB gb n4 b4 (C8.fnScope s4) (C8.fnBody s4) = true := by decide +kernel
theorem z4 : C8.scC n4 p4 (C8.fnScope s4) = true := by decide +kernel
abbrev s5 : Stmt := topS 7
def p5 : List Str := [Str.ofString "_law_script"]
theorem c5 : chkB gb n5 b5 (C8.fnScope s5) (C8.fnBody s5) = true := by decide +kernel
theorem z5 : C8.scC n5 p5 (C8.fnScope s5) = true := by decide +kernel
abbrev s6 : Stmt := topS 8
def p6 : List Str := [Str.ofString "_law_deck_here", Str.ofString "_law_below"]
theorem c6 : chkB gb n6 b6 (C8.fnScope s6) (C8.fnBody s6) = true := by decide +kernel
theorem z6 : C8.scC n6 p6 (C8.fnScope s6) = true := by decide +kernel
abbrev s7 : Stmt := topS 9
def p7 : List Str := [Str.ofString "_law_deck_here", Str.ofString "_law_some"]
theorem c7 : chkB gb n7 b7 (C8.fnScope s7) (C8.fnBody s7) = true := by decide +kernel
theorem z7 : C8.scC n7 p7 (C8.fnScope s7) = true := by decide +kernel
abbrev s8 : Stmt := topS 10
def p8 : List Str := [Str.ofString "_law_deck_here", Str.ofString "_law_most"]
theorem c8 : chkB gb n8 b8 (C8.fnScope s8) (C8.fnBody s8) = true := by decide +kernel
theorem z8 : C8.scC n8 p8 (C8.fnScope s8) = true := by decide +kernel
abbrev s9 : Stmt := topS 11
def p9 : List Str := [Str.ofString "_law_run"]
theorem c9 : chkB gb n9 b9 (C8.fnScope s9) (C8.fnBody s9) = true := by decide +kernel
theorem z9 : C8.scC n9 p9 (C8.fnScope s9) = true := by decide +kernel
abbrev s10 : Stmt := topS 12
def p10 : List Str := [Str.ofString "_law_run"]
theorem c10 : chkB gb n10 b10 (C8.fnScope s10) (C8.fnBody s10) = true := by decide +kernel
theorem z10 : C8.scC n10 p10 (C8.fnScope s10) = true := by decide +kernel
abbrev s11 : Stmt := topS 13
def p11 : List Str := [Str.ofString "_law_deck_here"]
theorem c11 : chkB gb n11 b11 (C8.fnScope s11) (C8.fnBody s11) = true := by decide +kernel
theorem z11 : C8.scC n11 p11 (C8.fnScope s11) = true := by decide +kernel
abbrev s12 : Stmt := topS 14
def p12 : List Str := [Str.ofString "_law_run", Str.ofString "_law_far"]
theorem c12 : chkB gb n12 b12 (C8.fnScope s12) (C8.fnBody s12) = true := by decide +kernel
theorem z12 : C8.scC n12 p12 (C8.fnScope s12) = true := by decide +kernel
abbrev s13 : Stmt := topS 15
def p13 : List Str := [Str.ofString "_law_script"]
theorem c13 : chkB gb n13 b13 (C8.fnScope s13) (C8.fnBody s13) = true := by decide +kernel
theorem z13 : C8.scC n13 p13 (C8.fnScope s13) = true := by decide +kernel
theorem table {K : PySem.W.Frag} {h : Heap} {mg : Str → Option Value} (X : K.In h) (G : h.Ns mainGlobals mg)
    {g0 : Addr} {od0 an0 : Option Addr} {sl0 : Array (Option Value)} {oc0 kV0 dc0 pm0 cd0 ct0 : Value}
    {g1 : Addr} {od1 an1 : Option Addr} {sl1 : Array (Option Value)} {oc1 kV1 dc1 pm1 cd1 ct1 : Value}
    {g2 : Addr} {od2 an2 : Option Addr} {sl2 : Array (Option Value)} {oc2 kV2 dc2 pm2 cd2 ct2 : Value}
    {g3 : Addr} {od3 an3 : Option Addr} {sl3 : Array (Option Value)} {oc3 kV3 dc3 pm3 cd3 ct3 : Value}
    {g4 : Addr} {od4 an4 : Option Addr} {sl4 : Array (Option Value)} {oc4 kV4 dc4 pm4 cd4 ct4 : Value}
    {g5 : Addr} {od5 an5 : Option Addr} {sl5 : Array (Option Value)} {oc5 kV5 dc5 pm5 cd5 ct5 : Value}
    {g6 : Addr} {od6 an6 : Option Addr} {sl6 : Array (Option Value)} {oc6 kV6 dc6 pm6 cd6 ct6 : Value}
    {g7 : Addr} {od7 an7 : Option Addr} {sl7 : Array (Option Value)} {oc7 kV7 dc7 pm7 cd7 ct7 : Value}
    {g8 : Addr} {od8 an8 : Option Addr} {sl8 : Array (Option Value)} {oc8 kV8 dc8 pm8 cd8 ct8 : Value}
    {g9 : Addr} {od9 an9 : Option Addr} {sl9 : Array (Option Value)} {oc9 kV9 dc9 pm9 cd9 ct9 : Value}
    {g10 : Addr} {od10 an10 : Option Addr} {sl10 : Array (Option Value)} {oc10 kV10 dc10 pm10 cd10 ct10 : Value}
    {g11 : Addr} {od11 an11 : Option Addr} {sl11 : Array (Option Value)} {oc11 kV11 dc11 pm11 cd11 ct11 : Value}
    {g12 : Addr} {od12 an12 : Option Addr} {sl12 : Array (Option Value)} {oc12 kV12 dc12 pm12 cd12 ct12 : Value}
    {g13 : Addr} {od13 an13 : Option Addr} {sl13 : Array (Option Value)} {oc13 kV13 dc13 pm13 cd13 ct13 : Value}
    (a0 : PySem.W.nsIn K mainGlobals (Str.ofString "sum_of") = some (some (.ref g0))) (l0 : K.lookup g0 = some ⟨oc0, od0, .func (PySem.W.fnOf (Str.ofString "sum_of") (Str.ofString "sum_of") (C8.fnArgs s0) (C8.fnBody s0) (C8.fnScope s0) .none kV0 dc0 pm0 an0 cd0 ct0), sl0⟩) (x0 : PySem.W.codeIn K cd0 (Str.ofString "sum_of") = true) (k0 : PySem.W.keepIn K (.ref g0) = true)
    (a1 : PySem.W.nsIn K mainGlobals (Str.ofString "turns_of_sign") = some (some (.ref g1))) (l1 : K.lookup g1 = some ⟨oc1, od1, .func (PySem.W.fnOf (Str.ofString "turns_of_sign") (Str.ofString "turns_of_sign") (C8.fnArgs s1) (C8.fnBody s1) (C8.fnScope s1) .none kV1 dc1 pm1 an1 cd1 ct1), sl1⟩) (x1 : PySem.W.codeIn K cd1 (Str.ofString "turns_of_sign") = true) (k1 : PySem.W.keepIn K (.ref g1) = true)
    (a2 : PySem.W.nsIn K mainGlobals (Str.ofString "changes") = some (some (.ref g2))) (l2 : K.lookup g2 = some ⟨oc2, od2, .func (PySem.W.fnOf (Str.ofString "changes") (Str.ofString "changes") (C8.fnArgs s2) (C8.fnBody s2) (C8.fnScope s2) .none kV2 dc2 pm2 an2 cd2 ct2), sl2⟩) (x2 : PySem.W.codeIn K cd2 (Str.ofString "changes") = true) (k2 : PySem.W.keepIn K (.ref g2) = true)
    (a3 : PySem.W.nsIn K mainGlobals (Str.ofString "differences") = some (some (.ref g3))) (l3 : K.lookup g3 = some ⟨oc3, od3, .func (PySem.W.fnOf (Str.ofString "differences") (Str.ofString "differences") (C8.fnArgs s3) (C8.fnBody s3) (C8.fnScope s3) .none kV3 dc3 pm3 an3 cd3 ct3), sl3⟩) (x3 : PySem.W.codeIn K cd3 (Str.ofString "differences") = true) (k3 : PySem.W.keepIn K (.ref g3) = true)
    (a4 : PySem.W.nsIn K mainGlobals (Str.ofString "peaks") = some (some (.ref g4))) (l4 : K.lookup g4 = some ⟨oc4, od4, .func (PySem.W.fnOf (Str.ofString "peaks") (Str.ofString "peaks") (C8.fnArgs s4) (C8.fnBody s4) (C8.fnScope s4) .none kV4 dc4 pm4 an4 cd4 ct4), sl4⟩) (x4 : PySem.W.codeIn K cd4 (Str.ofString "peaks") = true) (k4 : PySem.W.keepIn K (.ref g4) = true)
    (a5 : PySem.W.nsIn K mainGlobals (Str.ofString "_law_deck") = some (some (.ref g5))) (l5 : K.lookup g5 = some ⟨oc5, od5, .func (PySem.W.fnOf (Str.ofString "_law_deck") (Str.ofString "_law_deck") (C8.fnArgs s5) (C8.fnBody s5) (C8.fnScope s5) .none kV5 dc5 pm5 an5 cd5 ct5), sl5⟩) (x5 : PySem.W.codeIn K cd5 (Str.ofString "_law_deck") = true) (k5 : PySem.W.keepIn K (.ref g5) = true)
    (a6 : PySem.W.nsIn K mainGlobals (Str.ofString "_law_draw") = some (some (.ref g6))) (l6 : K.lookup g6 = some ⟨oc6, od6, .func (PySem.W.fnOf (Str.ofString "_law_draw") (Str.ofString "_law_draw") (C8.fnArgs s6) (C8.fnBody s6) (C8.fnScope s6) .none kV6 dc6 pm6 an6 cd6 ct6), sl6⟩) (x6 : PySem.W.codeIn K cd6 (Str.ofString "_law_draw") = true) (k6 : PySem.W.keepIn K (.ref g6) = true)
    (a7 : PySem.W.nsIn K mainGlobals (Str.ofString "_law_pick") = some (some (.ref g7))) (l7 : K.lookup g7 = some ⟨oc7, od7, .func (PySem.W.fnOf (Str.ofString "_law_pick") (Str.ofString "_law_pick") (C8.fnArgs s7) (C8.fnBody s7) (C8.fnScope s7) .none kV7 dc7 pm7 an7 cd7 ct7), sl7⟩) (x7 : PySem.W.codeIn K cd7 (Str.ofString "_law_pick") = true) (k7 : PySem.W.keepIn K (.ref g7) = true)
    (a8 : PySem.W.nsIn K mainGlobals (Str.ofString "_law_line") = some (some (.ref g8))) (l8 : K.lookup g8 = some ⟨oc8, od8, .func (PySem.W.fnOf (Str.ofString "_law_line") (Str.ofString "_law_line") (C8.fnArgs s8) (C8.fnBody s8) (C8.fnScope s8) .none kV8 dc8 pm8 an8 cd8 ct8), sl8⟩) (x8 : PySem.W.codeIn K cd8 (Str.ofString "_law_line") = true) (k8 : PySem.W.keepIn K (.ref g8) = true)
    (a9 : PySem.W.nsIn K mainGlobals (Str.ofString "_law_less") = some (some (.ref g9))) (l9 : K.lookup g9 = some ⟨oc9, od9, .func (PySem.W.fnOf (Str.ofString "_law_less") (Str.ofString "_law_less") (C8.fnArgs s9) (C8.fnBody s9) (C8.fnScope s9) .none kV9 dc9 pm9 an9 cd9 ct9), sl9⟩) (x9 : PySem.W.codeIn K cd9 (Str.ofString "_law_less") = true) (k9 : PySem.W.keepIn K (.ref g9) = true)
    (a10 : PySem.W.nsIn K mainGlobals (Str.ofString "_law_turns") = some (some (.ref g10))) (l10 : K.lookup g10 = some ⟨oc10, od10, .func (PySem.W.fnOf (Str.ofString "_law_turns") (Str.ofString "_law_turns") (C8.fnArgs s10) (C8.fnBody s10) (C8.fnScope s10) .none kV10 dc10 pm10 an10 cd10 ct10), sl10⟩) (x10 : PySem.W.codeIn K cd10 (Str.ofString "_law_turns") = true) (k10 : PySem.W.keepIn K (.ref g10) = true)
    (a11 : PySem.W.nsIn K mainGlobals (Str.ofString "_law_hills") = some (some (.ref g11))) (l11 : K.lookup g11 = some ⟨oc11, od11, .func (PySem.W.fnOf (Str.ofString "_law_hills") (Str.ofString "_law_hills") (C8.fnArgs s11) (C8.fnBody s11) (C8.fnScope s11) .none kV11 dc11 pm11 an11 cd11 ct11), sl11⟩) (x11 : PySem.W.codeIn K cd11 (Str.ofString "_law_hills") = true) (k11 : PySem.W.keepIn K (.ref g11) = true)
    (a12 : PySem.W.nsIn K mainGlobals (Str.ofString "_law_right") = some (some (.ref g12))) (l12 : K.lookup g12 = some ⟨oc12, od12, .func (PySem.W.fnOf (Str.ofString "_law_right") (Str.ofString "_law_right") (C8.fnArgs s12) (C8.fnBody s12) (C8.fnScope s12) .none kV12 dc12 pm12 an12 cd12 ct12), sl12⟩) (x12 : PySem.W.codeIn K cd12 (Str.ofString "_law_right") = true) (k12 : PySem.W.keepIn K (.ref g12) = true)
    (a13 : PySem.W.nsIn K mainGlobals (Str.ofString "law") = some (some (.ref g13))) (l13 : K.lookup g13 = some ⟨oc13, od13, .func (PySem.W.fnOf (Str.ofString "law") (Str.ofString "law") (C8.fnArgs s13) (C8.fnBody s13) (C8.fnScope s13) .none kV13 dc13 pm13 an13 cd13 ct13), sl13⟩) (x13 : PySem.W.codeIn K cd13 (Str.ofString "law") = true) (k13 : PySem.W.keepIn K (.ref g13) = true)
    (y0 : PySem.W.nsIn K mainGlobals (Str.ofString "len") = some none) (y1 : PySem.W.nsIn K mainGlobals (Str.ofString "zip") = some none) (y2 : PySem.W.nsIn K mainGlobals (Str.ofString "tuple") = some none) (y3 : PySem.W.nsIn K mainGlobals (Str.ofString "list") = some none) (y4 : PySem.W.nsIn K mainGlobals (Str.ofString "int") = some none) (y5 : PySem.W.nsIn K mainGlobals (Str.ofString "range") = some none) (y6 : PySem.W.nsIn K mainGlobals (Str.ofString "repr") = some none) (y7 : PySem.W.nsIn K mainGlobals (Str.ofString "sum") = some none) : ∃ c : Cn, Table c K mg gb fns ∧ ∃ f fd, DefAt c K mg gb fns (Str.ofString "law") 13 f fd p13 :=
  ⟨{ K := K }, ⟨rfl, look_all (P := fun x j => ∃ f fd ps, DefAt { K := K } K mg gb fns x j f fd ps) (List.forall_mem_cons.mpr ⟨⟨_, _, _, def_at (N := n0) (fn := f0) X G a0 l0 x0 k0 z0 rfl rfl rfl c0 (fun us h => match us, h with | [_, _], _ => rfl) (List.forall_mem_cons.mpr ⟨fun e => absurd e (by decide), List.forall_mem_cons.mpr ⟨fun e => absurd e (by decide), fun _ h => absurd h List.not_mem_nil⟩⟩)⟩, List.forall_mem_cons.mpr ⟨⟨_, _, _, def_at (N := n1) (fn := f1) X G a1 l1 x1 k1 z1 rfl rfl rfl c1 (fun us h => match us, h with | [_], _ => rfl) (List.forall_mem_cons.mpr ⟨fun e => absurd e (by decide), List.forall_mem_cons.mpr ⟨fun e => absurd e (by decide), fun _ h => absurd h List.not_mem_nil⟩⟩)⟩, List.forall_mem_cons.mpr ⟨⟨_, _, _, def_at (N := n2) (fn := f2) X G a2 l2 x2 k2 z2 rfl rfl rfl c2 (fun us h => match us, h with | [_], _ => rfl) (List.forall_mem_cons.mpr ⟨fun e => absurd e (by decide), List.forall_mem_cons.mpr ⟨fun e => absurd e (by decide), fun _ h => absurd h List.not_mem_nil⟩⟩)⟩, List.forall_mem_cons.mpr ⟨⟨_, _, _, def_at (N := n3) (fn := f3) X G a3 l3 x3 k3 z3 rfl rfl rfl c3 (fun us h => match us, h with | [_], _ => rfl) (List.forall_mem_cons.mpr ⟨fun _ us ws h1 h2 => match us, ws, h1, h2 with | [], [_], _, _ => rfl, List.forall_mem_cons.mpr ⟨fun e => absurd e (by decide), fun _ h => absurd h List.not_mem_nil⟩⟩)⟩, List.forall_mem_cons.mpr ⟨⟨_, _, _, def_at (N := n4) (fn := f4) X G a4 l4 x4 k4 z4 rfl rfl rfl c4 (fun us h => match us, h with | [_], _ => rfl) (List.forall_mem_cons.mpr ⟨fun e => absurd e (by decide), List.forall_mem_cons.mpr ⟨fun _ us ws h1 h2 => match us, ws, h1, h2 with | [], [_], _, _ => rfl, fun _ h => absurd h List.not_mem_nil⟩⟩)⟩, List.forall_mem_cons.mpr ⟨⟨_, _, _, def_at (N := n5) (fn := f5) X G a5 l5 x5 k5 z5 rfl rfl rfl c5 (fun us h => match us, h with | [_], _ => rfl) (List.forall_mem_cons.mpr ⟨fun e => absurd e (by decide), List.forall_mem_cons.mpr ⟨fun e => absurd e (by decide), fun _ h => absurd h List.not_mem_nil⟩⟩)⟩, List.forall_mem_cons.mpr ⟨⟨_, _, _, def_at (N := n6) (fn := f6) X G a6 l6 x6 k6 z6 rfl rfl rfl c6 (fun us h => match us, h with | [_, _], _ => rfl) (List.forall_mem_cons.mpr ⟨fun e => absurd e (by decide), List.forall_mem_cons.mpr ⟨fun e => absurd e (by decide), fun _ h => absurd h List.not_mem_nil⟩⟩)⟩, List.forall_mem_cons.mpr ⟨⟨_, _, _, def_at (N := n7) (fn := f7) X G a7 l7 x7 k7 z7 rfl rfl rfl c7 (fun us h => match us, h with | [_, _], _ => rfl) (List.forall_mem_cons.mpr ⟨fun e => absurd e (by decide), List.forall_mem_cons.mpr ⟨fun e => absurd e (by decide), fun _ h => absurd h List.not_mem_nil⟩⟩)⟩, List.forall_mem_cons.mpr ⟨⟨_, _, _, def_at (N := n8) (fn := f8) X G a8 l8 x8 k8 z8 rfl rfl rfl c8 (fun us h => match us, h with | [_, _], _ => rfl) (List.forall_mem_cons.mpr ⟨fun e => absurd e (by decide), List.forall_mem_cons.mpr ⟨fun e => absurd e (by decide), fun _ h => absurd h List.not_mem_nil⟩⟩)⟩, List.forall_mem_cons.mpr ⟨⟨_, _, _, def_at (N := n9) (fn := f9) X G a9 l9 x9 k9 z9 rfl rfl rfl c9 (fun us h => match us, h with | [_], _ => rfl) (List.forall_mem_cons.mpr ⟨fun e => absurd e (by decide), List.forall_mem_cons.mpr ⟨fun e => absurd e (by decide), fun _ h => absurd h List.not_mem_nil⟩⟩)⟩, List.forall_mem_cons.mpr ⟨⟨_, _, _, def_at (N := n10) (fn := f10) X G a10 l10 x10 k10 z10 rfl rfl rfl c10 (fun us h => match us, h with | [_], _ => rfl) (List.forall_mem_cons.mpr ⟨fun e => absurd e (by decide), List.forall_mem_cons.mpr ⟨fun e => absurd e (by decide), fun _ h => absurd h List.not_mem_nil⟩⟩)⟩, List.forall_mem_cons.mpr ⟨⟨_, _, _, def_at (N := n11) (fn := f11) X G a11 l11 x11 k11 z11 rfl rfl rfl c11 (fun us h => match us, h with | [_], _ => rfl) (List.forall_mem_cons.mpr ⟨fun e => absurd e (by decide), List.forall_mem_cons.mpr ⟨fun e => absurd e (by decide), fun _ h => absurd h List.not_mem_nil⟩⟩)⟩, List.forall_mem_cons.mpr ⟨⟨_, _, _, def_at (N := n12) (fn := f12) X G a12 l12 x12 k12 z12 rfl rfl rfl c12 (fun us h => match us, h with | [_, _], _ => rfl) (List.forall_mem_cons.mpr ⟨fun e => absurd e (by decide), List.forall_mem_cons.mpr ⟨fun e => absurd e (by decide), fun _ h => absurd h List.not_mem_nil⟩⟩)⟩, List.forall_mem_cons.mpr ⟨⟨_, _, _, def_at (N := n13) (fn := f13) X G a13 l13 x13 k13 z13 rfl rfl rfl c13 (fun us h => match us, h with | [_], _ => rfl) (List.forall_mem_cons.mpr ⟨fun e => absurd e (by decide), List.forall_mem_cons.mpr ⟨fun e => absurd e (by decide), fun _ h => absurd h List.not_mem_nil⟩⟩)⟩, fun _ h => absurd h List.not_mem_nil⟩⟩⟩⟩⟩⟩⟩⟩⟩⟩⟩⟩⟩⟩), fun x h => (show ∀ x ∈ gb.bis, mg x = none from List.forall_mem_cons.mpr ⟨PySem.W.mg_none_of X G y0, List.forall_mem_cons.mpr ⟨PySem.W.mg_none_of X G y1, List.forall_mem_cons.mpr ⟨PySem.W.mg_none_of X G y2, List.forall_mem_cons.mpr ⟨PySem.W.mg_none_of X G y3, List.forall_mem_cons.mpr ⟨PySem.W.mg_none_of X G y4, List.forall_mem_cons.mpr ⟨PySem.W.mg_none_of X G y5, List.forall_mem_cons.mpr ⟨PySem.W.mg_none_of X G y6, List.forall_mem_cons.mpr ⟨PySem.W.mg_none_of X G y7, fun _ h => absurd h List.not_mem_nil⟩⟩⟩⟩⟩⟩⟩⟩) x (List.contains_iff_mem.mp h), fun x d h => (by cases h)⟩, _, _, def_at (N := n13) (fn := f13) X G a13 l13 x13 k13 z13 rfl rfl rfl c13 (fun us h => match us, h with | [_], _ => rfl) (List.forall_mem_cons.mpr ⟨fun e => absurd e (by decide), List.forall_mem_cons.mpr ⟨fun e => absurd e (by decide), fun _ h => absurd h List.not_mem_nil⟩⟩)⟩
end G05

/-! Differences, plainly. -/
namespace PD
/-- the numbers less those ahead of them; l stands ahead of the first -/
def dfl : Int → List Int → List Int
  | _, [] => []
  | l, x :: r => (x - l) :: dfl x r
theorem dfl_len : ∀ (l : Int) (a : List Int), (dfl l a).length = a.length
  | _, [] => rfl
  | l, x :: r => by rw [dfl, List.length_cons, List.length_cons, dfl_len x r]
theorem dfl_snoc : ∀ (l : Int) (a : List Int) (x : Int), dfl l (a ++ [x]) = dfl l a ++ [x - (a.getLast?.getD l)]
  | l, [], x => rfl
  | l, y :: a, x => by
    rw [List.cons_append, dfl, dfl_snoc y a x, dfl, List.cons_append]
    congr 3
    cases a with
    | nil => rfl
    | cons z a => simp [List.getLast?_cons_cons, List.getLast?_cons]
theorem dfl_sum : ∀ (l : Int) (a : List Int), (dfl l a).sum = a.getLast?.getD l - l
  | l, [] => by simp [dfl]
  | l, y :: a => by
    rw [dfl, List.sum_cons, dfl_sum y a]
    cases a with
    | nil => simp
    | cons z a => simp [List.getLast?_cons_cons, List.getLast?_cons]; omega
theorem co_dfl : ∀ (l : Int) (a : List Int) (k : Nat), k < a.length → co (dfl l a) k = co a k - co (l :: a) k
  | l, [], k, h => by simp at h
  | l, x :: r, 0, h => by rw [dfl, co_cons0, co_cons0, co_cons0]
  | l, x :: r, k + 1, h => by
    rw [dfl, co_cons, co_cons, co_cons]
    exact co_dfl x r k (by rw [List.length_cons] at h; omega)
/-- the differences of a row -/
def difR (a : List Int) : List Int := if a = [] then [] else dfl 0 (a ++ [0])
theorem difR_len {a : List Int} : (difR a).length = if a = [] then 0 else a.length + 1 := by
  unfold difR
  split
  · rfl
  · rw [dfl_len, List.length_append, List.length_singleton]
theorem difR_le (a : List Int) : (difR a).length ≤ a.length + 1 := by rw [difR_len]; split <;> omega
theorem co_pad (a : List Int) (n : Nat) (k : Nat) : co (a ++ List.replicate n 0) k = co a k := by
  rw [co_app]
  have : shN a.length (co (List.replicate n 0)) k = 0 := by
    unfold shN; split
    · unfold co
      rw [List.getD_eq_getElem?_getD, List.getElem?_replicate]
      split <;> rfl
    · rfl
  rw [this, Int.add_zero]
theorem co_difR {a : List Int} (h : a ≠ []) (k : Nat) : co (difR a) k = co a k - co (0 :: a) k := by
  unfold difR
  rw [if_neg h]
  have e1 : ∀ k, co (a ++ [0]) k = co a k := fun k => co_pad a 1 k
  have e2 : ∀ k, co (0 :: (a ++ [0])) k = co (0 :: a) k := fun k => co_pad (0 :: a) 1 k
  by_cases hk : k < a.length + 1
  · rw [co_dfl 0 (a ++ [0]) k (by rw [List.length_append, List.length_singleton]; exact hk), e1, e2]
  · rw [co_out (by rw [dfl_len, List.length_append, List.length_singleton]; omega), co_out (a := a) (by omega), co_out (a := 0 :: a) (by rw [List.length_cons]; omega)]; rfl
theorem difR_sum (a : List Int) : (difR a).sum = 0 := by
  unfold difR
  split
  · rfl
  · rw [dfl_sum]; simp
theorem co_map (f : Int → Int) (hf : f 0 = 0) (a : List Int) (k : Nat) : co (a.map f) k = f (co a k) := by
  unfold co
  rw [List.getD_eq_getElem?_getD, List.getD_eq_getElem?_getD, List.getElem?_map]
  cases a[k]? with
  | none => simp [hf]
  | some x => rfl
theorem difR_mul (c : Int) (a : List Int) : difR (a.map (c * ·)) = (difR a).map (c * ·) := by
  by_cases h : a = []
  · subst h; rfl
  · have h2 : a.map (c * ·) ≠ [] := by simpa using h
    refine ext_co (by rw [List.length_map, difR_len, difR_len, if_neg h, if_neg h2, List.length_map]) fun k => ?_
    rw [co_difR h2, co_map _ (by simp), co_map _ (by simp), co_difR h]
    have e : co (0 :: a.map (c * ·)) k = c * co (0 :: a) k := by
      have := co_map (c * ·) (by simp) (0 :: a) k
      simpa using this
    rw [e, Int.mul_sub]
theorem co_rev {a : List Int} {k : Nat} (h : k < a.length) : co a.reverse k = co a (a.length - 1 - k) := by
  unfold co
  rw [List.getD_eq_getElem?_getD, List.getD_eq_getElem?_getD, List.getElem?_reverse h]
theorem difR_rev (a : List Int) : difR a.reverse = ((difR a).map fun x => -1 * x).reverse := by
  by_cases h : a = []
  · subst h; rfl
  · have h2 : a.reverse ≠ [] := by simpa using h
    have l0 : 0 < a.length := List.length_pos_iff.mpr h
    have ld : (difR a).length = a.length + 1 := by rw [difR_len, if_neg h]
    refine ext_co (by rw [List.length_reverse, List.length_map, difR_len, difR_len, if_neg h, if_neg h2, List.length_reverse]) fun k => ?_
    rw [co_difR h2]
    by_cases hk : k < a.length + 1
    · rw [co_rev (a := (difR a).map fun x => -1 * x) (by rw [List.length_map, ld]; exact hk), List.length_map, ld, co_map _ (by simp), co_difR h]
      have e1 : co a.reverse k = co (0 :: a) (a.length + 1 - 1 - k) := by
        by_cases h3 : k < a.length
        · rw [co_rev h3, show a.length + 1 - 1 - k = (a.length - 1 - k) + 1 by omega, co_cons]
        · rw [co_out (by rw [List.length_reverse]; omega), show a.length + 1 - 1 - k = 0 by omega, co_cons0]
      have e2 : co (0 :: a.reverse) k = co a (a.length + 1 - 1 - k) := by
        cases k with
        | zero => rw [co_cons0, co_out (by omega)]
        | succ k => rw [co_cons, co_rev (by omega)]; congr 1; omega
      rw [e1, e2]; omega
    · rw [co_out (a := a.reverse) (by rw [List.length_reverse]; omega), co_out (a := 0 :: a.reverse) (by rw [List.length_cons, List.length_reverse]; omega), co_out (by rw [List.length_reverse, List.length_map, ld]; omega)]; rfl
theorem pk_rev (a : List Int) : trn (sgs (difR a.reverse)) = trn (sgs (difR a)) := by
  rw [difR_rev, sgs_rev, trn_rev]
  exact sgs_mul (by decide) _
theorem pk_mul {c : Int} (h : c ≠ 0) (a : List Int) : trn (sgs (difR (a.map (c * ·)))) = trn (sgs (difR a)) := by
  rw [difR_mul]
  exact sgs_mul h _
theorem difR_add {l s : List Int} (hl : l ≠ []) (hs : s.length ≤ l.length) : difR (addR l s) = addR (difR l) (difR (s ++ List.replicate (l.length - s.length) 0)) := by
  have l0 : 0 < l.length := List.length_pos_iff.mpr hl
  have la : (addR l s).length = l.length := by rw [addR_len]; omega
  have h1 : addR l s ≠ [] := fun z => by rw [z] at la; simp at la; omega
  have lp : (s ++ List.replicate (l.length - s.length) 0).length = l.length := by simp; omega
  have h2 : s ++ List.replicate (l.length - s.length) 0 ≠ [] := fun z => by rw [z] at lp; simp at lp; omega
  refine ext_co (by rw [addR_len, difR_len, difR_len, difR_len, if_neg h1, if_neg hl, if_neg h2, la, lp]; omega) fun k => ?_
  rw [co_addR, co_difR h1, co_difR hl, co_difR h2, co_addR, co_pad]
  cases k with
  | zero => rw [co_cons0, co_cons0, co_cons0]; omega
  | succ k => rw [co_cons, co_cons, co_cons, co_addR, co_pad]; omega
theorem bd_dfl {i : Nat} : ∀ {l : Int} {a : List Int}, l.natAbs < 2 ^ i → Bd i a → Bd (i + 1) (dfl l a)
  | _, [], _, _ => bd_nil
  | l, x :: r, hl, ha => by
    have hx := ha x (List.mem_cons_self ..)
    refine bd_cons ?_ (bd_dfl hx fun j hj => ha j (List.mem_cons_of_mem _ hj))
    rw [Nat.pow_succ]; omega
theorem bd_difR {i : Nat} {a : List Int} (ha : Bd i a) : Bd (i + 1) (difR a) := by
  unfold difR
  split
  · exact bd_nil
  · have h0 : (0 : Int).natAbs < 2 ^ i := Nat.pow_pos (by decide)
    exact bd_dfl h0 (bd_app ha (bd_one h0))
end PD

/-! Plain law of k05: the defs. -/
namespace G05
open PySem PySem.Spec PyProof.Rows L2 PD
theorem wp_tn {k : Nat} {a : List Int} {st : Store} {Q : D → Store → Prop} (hl : a.length ≤ 1000000) (hq : Q (.int (trn (sgs a))) st) : Wp (callF fns (k + 1) 1 [.tup (a.map D.int)] st) Q := wp_turns rfl hl hq
theorem wp_su {k : Nat} {a b : List Int} {st : Store} {Q : D → Store → Prop} (hl : a.length ≤ 400000 ∧ b.length ≤ 400000)
    (hq : Q (.tup ((addR a b).map D.int)) st) : Wp (callF fns (k + 1) 0 [.tup (a.map D.int), .tup (b.map D.int)] st) Q := wp_sum rfl hl hq
theorem wp_changes {k : Nat} {a : List Int} {st : Store} {Q : D → Store → Prop} (hl : a.length ≤ 1000000) (hq : Q (.int (trn (sgs a))) st) : Wp (callF fns (k + 2) 2 [.tup (a.map D.int)] st) Q := by
  refine wp_call (fn := f2) rfl rfl ?_
  show Wp (ex _ b2 [some (.tup (a.map D.int))] st) (CallQ false _ Q)
  (simp -failIfUnchanged -dsimp -implicitDefEqProofs only [↓PD.Wa, PD.Wb0, PD.Wb1, PD.Wb2, PD.Wb3, PD.Wb4, PD.Wb5, PD.lim, PD.smallI, List.getD_cons_zero, List.getD_cons_succ, List.flatten_cons, List.flatten_nil, PD.setMany, Int.toNat_natCast, List.getElem?_cons_zero, List.getElem?_cons_succ, List.set_cons_zero, List.set_cons_succ, List.length_cons, List.length_nil, List.length_map, List.length_append, List.length_reverse, List.length_replicate, List.length_range, List.nil_append, List.append_nil, List.cons_append, Nat.zero_add, Nat.add_zero, Bool.not_true, Bool.not_false, if_true, if_false, ite_true, ite_false, decide_true, decide_false, Bool.and_true, Bool.true_and, Bool.and_false, Bool.false_and, Option.toList_none, Option.toList_some, Option.bind_some, List.replicate_zero, List.replicate_succ, List.map_nil, List.map_cons, Nat.reduceSub, Nat.reduceAdd, Nat.reduceMul, Nat.reduceLeDiff, Nat.reduceLT, Nat.reduceEqDiff, Int.reduceLE, Int.reduceLT, Int.reduceNeg, Int.reduceMul, Int.reduceAdd, Int.reduceSub, Int.reducePow, Int.reduceToNat, Int.reduceEq, true_and, and_true, eq_self, Int.zero_add, Bool.false_eq_true, b2, x2_0, y2_1, k2_2]; repeat ((refine wp_must (by first | (simp only [Bool.and_eq_true, decide_eq_true_eq, List.length_map, List.length_append, List.length_replicate, List.length_cons, List.length_nil]; omega) | exact mulOk_r (by omega) (by omega) | exact mulOk_l (by omega) (by omega) | exact PD.divOk_of (by omega)) ?_); simp -failIfUnchanged -dsimp -implicitDefEqProofs only [↓PD.Wa, PD.Wb0, PD.Wb1, PD.Wb2, PD.Wb3, PD.Wb4, PD.Wb5, PD.lim, PD.smallI, List.getD_cons_zero, List.getD_cons_succ, List.flatten_cons, List.flatten_nil, PD.setMany, Int.toNat_natCast, List.getElem?_cons_zero, List.getElem?_cons_succ, List.set_cons_zero, List.set_cons_succ, List.length_cons, List.length_nil, List.length_map, List.length_append, List.length_reverse, List.length_replicate, List.length_range, List.nil_append, List.append_nil, List.cons_append, Nat.zero_add, Nat.add_zero, Bool.not_true, Bool.not_false, if_true, if_false, ite_true, ite_false, decide_true, decide_false, Bool.and_true, Bool.true_and, Bool.and_false, Bool.false_and, Option.toList_none, Option.toList_some, Option.bind_some, List.replicate_zero, List.replicate_succ, List.map_nil, List.map_cons, Nat.reduceSub, Nat.reduceAdd, Nat.reduceMul, Nat.reduceLeDiff, Nat.reduceLT, Nat.reduceEqDiff, Int.reduceLE, Int.reduceLT, Int.reduceNeg, Int.reduceMul, Int.reduceAdd, Int.reduceSub, Int.reducePow, Int.reduceToNat, Int.reduceEq, true_and, and_true, eq_self, Int.zero_add, Bool.false_eq_true, b2, x2_0, y2_1, k2_2]))
  refine wp_tn hl ?_
  (simp -failIfUnchanged -dsimp -implicitDefEqProofs only [↓PD.Wa, PD.Wb0, PD.Wb1, PD.Wb2, PD.Wb3, PD.Wb4, PD.Wb5, PD.lim, PD.smallI, List.getD_cons_zero, List.getD_cons_succ, List.flatten_cons, List.flatten_nil, PD.setMany, Int.toNat_natCast, List.getElem?_cons_zero, List.getElem?_cons_succ, List.set_cons_zero, List.set_cons_succ, List.length_cons, List.length_nil, List.length_map, List.length_append, List.length_reverse, List.length_replicate, List.length_range, List.nil_append, List.append_nil, List.cons_append, Nat.zero_add, Nat.add_zero, Bool.not_true, Bool.not_false, if_true, if_false, ite_true, ite_false, decide_true, decide_false, Bool.and_true, Bool.true_and, Bool.and_false, Bool.false_and, Option.toList_none, Option.toList_some, Option.bind_some, List.replicate_zero, List.replicate_succ, List.map_nil, List.map_cons, Nat.reduceSub, Nat.reduceAdd, Nat.reduceMul, Nat.reduceLeDiff, Nat.reduceLT, Nat.reduceEqDiff, Int.reduceLE, Int.reduceLT, Int.reduceNeg, Int.reduceMul, Int.reduceAdd, Int.reduceSub, Int.reducePow, Int.reduceToNat, Int.reduceEq, true_and, and_true, eq_self, Int.zero_add, Bool.false_eq_true]; repeat ((refine wp_must (by first | (simp only [Bool.and_eq_true, decide_eq_true_eq, List.length_map, List.length_append, List.length_replicate, List.length_cons, List.length_nil]; omega) | exact mulOk_r (by omega) (by omega) | exact mulOk_l (by omega) (by omega) | exact PD.divOk_of (by omega)) ?_); simp -failIfUnchanged -dsimp -implicitDefEqProofs only [↓PD.Wa, PD.Wb0, PD.Wb1, PD.Wb2, PD.Wb3, PD.Wb4, PD.Wb5, PD.lim, PD.smallI, List.getD_cons_zero, List.getD_cons_succ, List.flatten_cons, List.flatten_nil, PD.setMany, Int.toNat_natCast, List.getElem?_cons_zero, List.getElem?_cons_succ, List.set_cons_zero, List.set_cons_succ, List.length_cons, List.length_nil, List.length_map, List.length_append, List.length_reverse, List.length_replicate, List.length_range, List.nil_append, List.append_nil, List.cons_append, Nat.zero_add, Nat.add_zero, Bool.not_true, Bool.not_false, if_true, if_false, ite_true, ite_false, decide_true, decide_false, Bool.and_true, Bool.true_and, Bool.and_false, Bool.false_and, Option.toList_none, Option.toList_some, Option.bind_some, List.replicate_zero, List.replicate_succ, List.map_nil, List.map_cons, Nat.reduceSub, Nat.reduceAdd, Nat.reduceMul, Nat.reduceLeDiff, Nat.reduceLT, Nat.reduceEqDiff, Int.reduceLE, Int.reduceLT, Int.reduceNeg, Int.reduceMul, Int.reduceAdd, Int.reduceSub, Int.reducePow, Int.reduceToNat, Int.reduceEq, true_and, and_true, eq_self, Int.zero_add, Bool.false_eq_true]))
  exact hq
theorem wp_dif {k : Nat} {a : List Int} {st : Store} {Q : D → Store → Prop} (hl : a.length ≤ 400000) (hq : Q (.tup ((difR a).map D.int)) st) : Wp (callF fns (k + 1) 3 [.tup (a.map D.int)] st) Q := by
  refine wp_call (fn := f3) rfl rfl ?_
  show Wp (ex _ b3 [some (.tup (a.map D.int)), none, none] st) (CallQ false _ Q)
  by_cases h : a = []
  · subst h
    (simp -failIfUnchanged -dsimp -implicitDefEqProofs only [↓PD.Wa, PD.Wb0, PD.Wb1, PD.Wb2, PD.Wb3, PD.Wb4, PD.Wb5, PD.lim, PD.smallI, List.getD_cons_zero, List.getD_cons_succ, List.flatten_cons, List.flatten_nil, PD.setMany, Int.toNat_natCast, List.getElem?_cons_zero, List.getElem?_cons_succ, List.set_cons_zero, List.set_cons_succ, List.length_cons, List.length_nil, List.length_map, List.length_append, List.length_reverse, List.length_replicate, List.length_range, List.nil_append, List.append_nil, List.cons_append, Nat.zero_add, Nat.add_zero, Bool.not_true, Bool.not_false, if_true, if_false, ite_true, ite_false, decide_true, decide_false, Bool.and_true, Bool.true_and, Bool.and_false, Bool.false_and, Option.toList_none, Option.toList_some, Option.bind_some, List.replicate_zero, List.replicate_succ, List.map_nil, List.map_cons, Nat.reduceSub, Nat.reduceAdd, Nat.reduceMul, Nat.reduceLeDiff, Nat.reduceLT, Nat.reduceEqDiff, Int.reduceLE, Int.reduceLT, Int.reduceNeg, Int.reduceMul, Int.reduceAdd, Int.reduceSub, Int.reducePow, Int.reduceToNat, Int.reduceEq, true_and, and_true, eq_self, Int.zero_add, Bool.false_eq_true, b3, x3_0, x3_1, y3_2, k3_3, k3_4, y3_5, x3_6, y3_7, k3_8]; repeat ((refine wp_must (by first | (simp only [Bool.and_eq_true, decide_eq_true_eq, List.length_map, List.length_append, List.length_replicate, List.length_cons, List.length_nil]; omega) | exact mulOk_r (by omega) (by omega) | exact mulOk_l (by omega) (by omega) | exact PD.divOk_of (by omega)) ?_); simp -failIfUnchanged -dsimp -implicitDefEqProofs only [↓PD.Wa, PD.Wb0, PD.Wb1, PD.Wb2, PD.Wb3, PD.Wb4, PD.Wb5, PD.lim, PD.smallI, List.getD_cons_zero, List.getD_cons_succ, List.flatten_cons, List.flatten_nil, PD.setMany, Int.toNat_natCast, List.getElem?_cons_zero, List.getElem?_cons_succ, List.set_cons_zero, List.set_cons_succ, List.length_cons, List.length_nil, List.length_map, List.length_append, List.length_reverse, List.length_replicate, List.length_range, List.nil_append, List.append_nil, List.cons_append, Nat.zero_add, Nat.add_zero, Bool.not_true, Bool.not_false, if_true, if_false, ite_true, ite_false, decide_true, decide_false, Bool.and_true, Bool.true_and, Bool.and_false, Bool.false_and, Option.toList_none, Option.toList_some, Option.bind_some, List.replicate_zero, List.replicate_succ, List.map_nil, List.map_cons, Nat.reduceSub, Nat.reduceAdd, Nat.reduceMul, Nat.reduceLeDiff, Nat.reduceLT, Nat.reduceEqDiff, Int.reduceLE, Int.reduceLT, Int.reduceNeg, Int.reduceMul, Int.reduceAdd, Int.reduceSub, Int.reducePow, Int.reduceToNat, Int.reduceEq, true_and, and_true, eq_self, Int.zero_add, Bool.false_eq_true, b3, x3_0, x3_1, y3_2, k3_3, k3_4, y3_5, x3_6, y3_7, k3_8]))
    exact hq
  · (simp -failIfUnchanged -dsimp -implicitDefEqProofs only [↓PD.Wa, PD.Wb0, PD.Wb1, PD.Wb2, PD.Wb3, PD.Wb4, PD.Wb5, PD.lim, PD.smallI, List.getD_cons_zero, List.getD_cons_succ, List.flatten_cons, List.flatten_nil, PD.setMany, Int.toNat_natCast, List.getElem?_cons_zero, List.getElem?_cons_succ, List.set_cons_zero, List.set_cons_succ, List.length_cons, List.length_nil, List.length_map, List.length_append, List.length_reverse, List.length_replicate, List.length_range, List.nil_append, List.append_nil, List.cons_append, Nat.zero_add, Nat.add_zero, Bool.not_true, Bool.not_false, if_true, if_false, ite_true, ite_false, decide_true, decide_false, Bool.and_true, Bool.true_and, Bool.and_false, Bool.false_and, Option.toList_none, Option.toList_some, Option.bind_some, List.replicate_zero, List.replicate_succ, List.map_nil, List.map_cons, Nat.reduceSub, Nat.reduceAdd, Nat.reduceMul, Nat.reduceLeDiff, Nat.reduceLT, Nat.reduceEqDiff, Int.reduceLE, Int.reduceLT, Int.reduceNeg, Int.reduceMul, Int.reduceAdd, Int.reduceSub, Int.reducePow, Int.reduceToNat, Int.reduceEq, true_and, and_true, eq_self, Int.zero_add, Bool.false_eq_true, b3, x3_0, x3_1, y3_2, k3_3, k3_4, y3_5, x3_6, y3_7, k3_8, decide_eq_false h]; repeat ((refine wp_must (by first | (simp only [Bool.and_eq_true, decide_eq_true_eq, List.length_map, List.length_append, List.length_replicate, List.length_cons, List.length_nil]; omega) | exact mulOk_r (by omega) (by omega) | exact mulOk_l (by omega) (by omega) | exact PD.divOk_of (by omega)) ?_); simp -failIfUnchanged -dsimp -implicitDefEqProofs only [↓PD.Wa, PD.Wb0, PD.Wb1, PD.Wb2, PD.Wb3, PD.Wb4, PD.Wb5, PD.lim, PD.smallI, List.getD_cons_zero, List.getD_cons_succ, List.flatten_cons, List.flatten_nil, PD.setMany, Int.toNat_natCast, List.getElem?_cons_zero, List.getElem?_cons_succ, List.set_cons_zero, List.set_cons_succ, List.length_cons, List.length_nil, List.length_map, List.length_append, List.length_reverse, List.length_replicate, List.length_range, List.nil_append, List.append_nil, List.cons_append, Nat.zero_add, Nat.add_zero, Bool.not_true, Bool.not_false, if_true, if_false, ite_true, ite_false, decide_true, decide_false, Bool.and_true, Bool.true_and, Bool.and_false, Bool.false_and, Option.toList_none, Option.toList_some, Option.bind_some, List.replicate_zero, List.replicate_succ, List.map_nil, List.map_cons, Nat.reduceSub, Nat.reduceAdd, Nat.reduceMul, Nat.reduceLeDiff, Nat.reduceLT, Nat.reduceEqDiff, Int.reduceLE, Int.reduceLT, Int.reduceNeg, Int.reduceMul, Int.reduceAdd, Int.reduceSub, Int.reducePow, Int.reduceToNat, Int.reduceEq, true_and, and_true, eq_self, Int.zero_add, Bool.false_eq_true, b3, x3_0, x3_1, y3_2, k3_3, k3_4, y3_5, x3_6, y3_7, k3_8, decide_eq_false h]))
    rw [map_one, ← List.map_cons]
    refine wp_compm (fun k : Nat => .tup [.int ((0 :: a).getD k 0), .int ((a ++ [0]).getD k 0)]) (fun k => .int ((a ++ [0]).getD k 0 - (0 :: a).getD k 0)) (List.range (min (0 :: a).length (a ++ [0]).length)) (zip_range _ _) rfl (fun j hj => ?_) ?_
    · (simp -failIfUnchanged -dsimp -implicitDefEqProofs only [↓PD.Wa, PD.Wb0, PD.Wb1, PD.Wb2, PD.Wb3, PD.Wb4, PD.Wb5, PD.lim, PD.smallI, List.getD_cons_zero, List.getD_cons_succ, List.flatten_cons, List.flatten_nil, PD.setMany, Int.toNat_natCast, List.getElem?_cons_zero, List.getElem?_cons_succ, List.set_cons_zero, List.set_cons_succ, List.length_cons, List.length_nil, List.length_map, List.length_append, List.length_reverse, List.length_replicate, List.length_range, List.nil_append, List.append_nil, List.cons_append, Nat.zero_add, Nat.add_zero, Bool.not_true, Bool.not_false, if_true, if_false, ite_true, ite_false, decide_true, decide_false, Bool.and_true, Bool.true_and, Bool.and_false, Bool.false_and, Option.toList_none, Option.toList_some, Option.bind_some, List.replicate_zero, List.replicate_succ, List.map_nil, List.map_cons, Nat.reduceSub, Nat.reduceAdd, Nat.reduceMul, Nat.reduceLeDiff, Nat.reduceLT, Nat.reduceEqDiff, Int.reduceLE, Int.reduceLT, Int.reduceNeg, Int.reduceMul, Int.reduceAdd, Int.reduceSub, Int.reducePow, Int.reduceToNat, Int.reduceEq, true_and, and_true, eq_self, Int.zero_add, Bool.false_eq_true]; repeat ((refine wp_must (by first | (simp only [Bool.and_eq_true, decide_eq_true_eq, List.length_map, List.length_append, List.length_replicate, List.length_cons, List.length_nil]; omega) | exact mulOk_r (by omega) (by omega) | exact mulOk_l (by omega) (by omega) | exact PD.divOk_of (by omega)) ?_); simp -failIfUnchanged -dsimp -implicitDefEqProofs only [↓PD.Wa, PD.Wb0, PD.Wb1, PD.Wb2, PD.Wb3, PD.Wb4, PD.Wb5, PD.lim, PD.smallI, List.getD_cons_zero, List.getD_cons_succ, List.flatten_cons, List.flatten_nil, PD.setMany, Int.toNat_natCast, List.getElem?_cons_zero, List.getElem?_cons_succ, List.set_cons_zero, List.set_cons_succ, List.length_cons, List.length_nil, List.length_map, List.length_append, List.length_reverse, List.length_replicate, List.length_range, List.nil_append, List.append_nil, List.cons_append, Nat.zero_add, Nat.add_zero, Bool.not_true, Bool.not_false, if_true, if_false, ite_true, ite_false, decide_true, decide_false, Bool.and_true, Bool.true_and, Bool.and_false, Bool.false_and, Option.toList_none, Option.toList_some, Option.bind_some, List.replicate_zero, List.replicate_succ, List.map_nil, List.map_cons, Nat.reduceSub, Nat.reduceAdd, Nat.reduceMul, Nat.reduceLeDiff, Nat.reduceLT, Nat.reduceEqDiff, Int.reduceLE, Int.reduceLT, Int.reduceNeg, Int.reduceMul, Int.reduceAdd, Int.reduceSub, Int.reducePow, Int.reduceToNat, Int.reduceEq, true_and, and_true, eq_self, Int.zero_add, Bool.false_eq_true]))
    · rw [map_int (fun k : Nat => (a ++ [(0 : Int)]).getD k 0 - ((0 : Int) :: a).getD k 0)]
      have e : (List.range (min (0 :: a).length (a ++ [0]).length)).map (fun k : Nat => (a ++ [0]).getD k 0 - (0 :: a).getD k 0) = difR a := by
        refine ext_co (by rw [difR_len, if_neg h]; simp) fun k => ?_
        rw [co_range, co_difR h]
        have e1 : co (a ++ [0]) k = co a k := co_pad a 1 k
        split
        · rw [← e1]; rfl
        · rename_i hk
          simp at hk
          rw [co_out (by omega), co_out (a := 0 :: a) (by rw [List.length_cons]; omega)]; rfl
      rw [e]
      (simp -failIfUnchanged -dsimp -implicitDefEqProofs only [↓PD.Wa, PD.Wb0, PD.Wb1, PD.Wb2, PD.Wb3, PD.Wb4, PD.Wb5, PD.lim, PD.smallI, List.getD_cons_zero, List.getD_cons_succ, List.flatten_cons, List.flatten_nil, PD.setMany, Int.toNat_natCast, List.getElem?_cons_zero, List.getElem?_cons_succ, List.set_cons_zero, List.set_cons_succ, List.length_cons, List.length_nil, List.length_map, List.length_append, List.length_reverse, List.length_replicate, List.length_range, List.nil_append, List.append_nil, List.cons_append, Nat.zero_add, Nat.add_zero, Bool.not_true, Bool.not_false, if_true, if_false, ite_true, ite_false, decide_true, decide_false, Bool.and_true, Bool.true_and, Bool.and_false, Bool.false_and, Option.toList_none, Option.toList_some, Option.bind_some, List.replicate_zero, List.replicate_succ, List.map_nil, List.map_cons, Nat.reduceSub, Nat.reduceAdd, Nat.reduceMul, Nat.reduceLeDiff, Nat.reduceLT, Nat.reduceEqDiff, Int.reduceLE, Int.reduceLT, Int.reduceNeg, Int.reduceMul, Int.reduceAdd, Int.reduceSub, Int.reducePow, Int.reduceToNat, Int.reduceEq, true_and, and_true, eq_self, Int.zero_add, Bool.false_eq_true]; repeat ((refine wp_must (by first | (simp only [Bool.and_eq_true, decide_eq_true_eq, List.length_map, List.length_append, List.length_replicate, List.length_cons, List.length_nil]; omega) | exact mulOk_r (by omega) (by omega) | exact mulOk_l (by omega) (by omega) | exact PD.divOk_of (by omega)) ?_); simp -failIfUnchanged -dsimp -implicitDefEqProofs only [↓PD.Wa, PD.Wb0, PD.Wb1, PD.Wb2, PD.Wb3, PD.Wb4, PD.Wb5, PD.lim, PD.smallI, List.getD_cons_zero, List.getD_cons_succ, List.flatten_cons, List.flatten_nil, PD.setMany, Int.toNat_natCast, List.getElem?_cons_zero, List.getElem?_cons_succ, List.set_cons_zero, List.set_cons_succ, List.length_cons, List.length_nil, List.length_map, List.length_append, List.length_reverse, List.length_replicate, List.length_range, List.nil_append, List.append_nil, List.cons_append, Nat.zero_add, Nat.add_zero, Bool.not_true, Bool.not_false, if_true, if_false, ite_true, ite_false, decide_true, decide_false, Bool.and_true, Bool.true_and, Bool.and_false, Bool.false_and, Option.toList_none, Option.toList_some, Option.bind_some, List.replicate_zero, List.replicate_succ, List.map_nil, List.map_cons, Nat.reduceSub, Nat.reduceAdd, Nat.reduceMul, Nat.reduceLeDiff, Nat.reduceLT, Nat.reduceEqDiff, Int.reduceLE, Int.reduceLT, Int.reduceNeg, Int.reduceMul, Int.reduceAdd, Int.reduceSub, Int.reducePow, Int.reduceToNat, Int.reduceEq, true_and, and_true, eq_self, Int.zero_add, Bool.false_eq_true]))
      exact hq
theorem wp_peaks {k : Nat} {a : List Int} {st : Store} {Q : D → Store → Prop} (hl : a.length ≤ 400000) (hq : Q (.int (trn (sgs (difR a)))) st) : Wp (callF fns (k + 2) 4 [.tup (a.map D.int)] st) Q := by
  have ld := difR_le a
  refine wp_call (fn := f4) rfl rfl ?_
  show Wp (ex _ b4 [some (.tup (a.map D.int))] st) (CallQ false _ Q)
  (simp -failIfUnchanged -dsimp -implicitDefEqProofs only [↓PD.Wa, PD.Wb0, PD.Wb1, PD.Wb2, PD.Wb3, PD.Wb4, PD.Wb5, PD.lim, PD.smallI, List.getD_cons_zero, List.getD_cons_succ, List.flatten_cons, List.flatten_nil, PD.setMany, Int.toNat_natCast, List.getElem?_cons_zero, List.getElem?_cons_succ, List.set_cons_zero, List.set_cons_succ, List.length_cons, List.length_nil, List.length_map, List.length_append, List.length_reverse, List.length_replicate, List.length_range, List.nil_append, List.append_nil, List.cons_append, Nat.zero_add, Nat.add_zero, Bool.not_true, Bool.not_false, if_true, if_false, ite_true, ite_false, decide_true, decide_false, Bool.and_true, Bool.true_and, Bool.and_false, Bool.false_and, Option.toList_none, Option.toList_some, Option.bind_some, List.replicate_zero, List.replicate_succ, List.map_nil, List.map_cons, Nat.reduceSub, Nat.reduceAdd, Nat.reduceMul, Nat.reduceLeDiff, Nat.reduceLT, Nat.reduceEqDiff, Int.reduceLE, Int.reduceLT, Int.reduceNeg, Int.reduceMul, Int.reduceAdd, Int.reduceSub, Int.reducePow, Int.reduceToNat, Int.reduceEq, true_and, and_true, eq_self, Int.zero_add, Bool.false_eq_true, b4, x4_0, y4_1, k4_2]; repeat ((refine wp_must (by first | (simp only [Bool.and_eq_true, decide_eq_true_eq, List.length_map, List.length_append, List.length_replicate, List.length_cons, List.length_nil]; omega) | exact mulOk_r (by omega) (by omega) | exact mulOk_l (by omega) (by omega) | exact PD.divOk_of (by omega)) ?_); simp -failIfUnchanged -dsimp -implicitDefEqProofs only [↓PD.Wa, PD.Wb0, PD.Wb1, PD.Wb2, PD.Wb3, PD.Wb4, PD.Wb5, PD.lim, PD.smallI, List.getD_cons_zero, List.getD_cons_succ, List.flatten_cons, List.flatten_nil, PD.setMany, Int.toNat_natCast, List.getElem?_cons_zero, List.getElem?_cons_succ, List.set_cons_zero, List.set_cons_succ, List.length_cons, List.length_nil, List.length_map, List.length_append, List.length_reverse, List.length_replicate, List.length_range, List.nil_append, List.append_nil, List.cons_append, Nat.zero_add, Nat.add_zero, Bool.not_true, Bool.not_false, if_true, if_false, ite_true, ite_false, decide_true, decide_false, Bool.and_true, Bool.true_and, Bool.and_false, Bool.false_and, Option.toList_none, Option.toList_some, Option.bind_some, List.replicate_zero, List.replicate_succ, List.map_nil, List.map_cons, Nat.reduceSub, Nat.reduceAdd, Nat.reduceMul, Nat.reduceLeDiff, Nat.reduceLT, Nat.reduceEqDiff, Int.reduceLE, Int.reduceLT, Int.reduceNeg, Int.reduceMul, Int.reduceAdd, Int.reduceSub, Int.reducePow, Int.reduceToNat, Int.reduceEq, true_and, and_true, eq_self, Int.zero_add, Bool.false_eq_true, b4, x4_0, y4_1, k4_2]))
  refine wp_dif hl ?_
  (simp -failIfUnchanged -dsimp -implicitDefEqProofs only [↓PD.Wa, PD.Wb0, PD.Wb1, PD.Wb2, PD.Wb3, PD.Wb4, PD.Wb5, PD.lim, PD.smallI, List.getD_cons_zero, List.getD_cons_succ, List.flatten_cons, List.flatten_nil, PD.setMany, Int.toNat_natCast, List.getElem?_cons_zero, List.getElem?_cons_succ, List.set_cons_zero, List.set_cons_succ, List.length_cons, List.length_nil, List.length_map, List.length_append, List.length_reverse, List.length_replicate, List.length_range, List.nil_append, List.append_nil, List.cons_append, Nat.zero_add, Nat.add_zero, Bool.not_true, Bool.not_false, if_true, if_false, ite_true, ite_false, decide_true, decide_false, Bool.and_true, Bool.true_and, Bool.and_false, Bool.false_and, Option.toList_none, Option.toList_some, Option.bind_some, List.replicate_zero, List.replicate_succ, List.map_nil, List.map_cons, Nat.reduceSub, Nat.reduceAdd, Nat.reduceMul, Nat.reduceLeDiff, Nat.reduceLT, Nat.reduceEqDiff, Int.reduceLE, Int.reduceLT, Int.reduceNeg, Int.reduceMul, Int.reduceAdd, Int.reduceSub, Int.reducePow, Int.reduceToNat, Int.reduceEq, true_and, and_true, eq_self, Int.zero_add, Bool.false_eq_true]; repeat ((refine wp_must (by first | (simp only [Bool.and_eq_true, decide_eq_true_eq, List.length_map, List.length_append, List.length_replicate, List.length_cons, List.length_nil]; omega) | exact mulOk_r (by omega) (by omega) | exact mulOk_l (by omega) (by omega) | exact PD.divOk_of (by omega)) ?_); simp -failIfUnchanged -dsimp -implicitDefEqProofs only [↓PD.Wa, PD.Wb0, PD.Wb1, PD.Wb2, PD.Wb3, PD.Wb4, PD.Wb5, PD.lim, PD.smallI, List.getD_cons_zero, List.getD_cons_succ, List.flatten_cons, List.flatten_nil, PD.setMany, Int.toNat_natCast, List.getElem?_cons_zero, List.getElem?_cons_succ, List.set_cons_zero, List.set_cons_succ, List.length_cons, List.length_nil, List.length_map, List.length_append, List.length_reverse, List.length_replicate, List.length_range, List.nil_append, List.append_nil, List.cons_append, Nat.zero_add, Nat.add_zero, Bool.not_true, Bool.not_false, if_true, if_false, ite_true, ite_false, decide_true, decide_false, Bool.and_true, Bool.true_and, Bool.and_false, Bool.false_and, Option.toList_none, Option.toList_some, Option.bind_some, List.replicate_zero, List.replicate_succ, List.map_nil, List.map_cons, Nat.reduceSub, Nat.reduceAdd, Nat.reduceMul, Nat.reduceLeDiff, Nat.reduceLT, Nat.reduceEqDiff, Int.reduceLE, Int.reduceLT, Int.reduceNeg, Int.reduceMul, Int.reduceAdd, Int.reduceSub, Int.reducePow, Int.reduceToNat, Int.reduceEq, true_and, and_true, eq_self, Int.zero_add, Bool.false_eq_true]))
  refine wp_tn (by omega) ?_
  (simp -failIfUnchanged -dsimp -implicitDefEqProofs only [↓PD.Wa, PD.Wb0, PD.Wb1, PD.Wb2, PD.Wb3, PD.Wb4, PD.Wb5, PD.lim, PD.smallI, List.getD_cons_zero, List.getD_cons_succ, List.flatten_cons, List.flatten_nil, PD.setMany, Int.toNat_natCast, List.getElem?_cons_zero, List.getElem?_cons_succ, List.set_cons_zero, List.set_cons_succ, List.length_cons, List.length_nil, List.length_map, List.length_append, List.length_reverse, List.length_replicate, List.length_range, List.nil_append, List.append_nil, List.cons_append, Nat.zero_add, Nat.add_zero, Bool.not_true, Bool.not_false, if_true, if_false, ite_true, ite_false, decide_true, decide_false, Bool.and_true, Bool.true_and, Bool.and_false, Bool.false_and, Option.toList_none, Option.toList_some, Option.bind_some, List.replicate_zero, List.replicate_succ, List.map_nil, List.map_cons, Nat.reduceSub, Nat.reduceAdd, Nat.reduceMul, Nat.reduceLeDiff, Nat.reduceLT, Nat.reduceEqDiff, Int.reduceLE, Int.reduceLT, Int.reduceNeg, Int.reduceMul, Int.reduceAdd, Int.reduceSub, Int.reducePow, Int.reduceToNat, Int.reduceEq, true_and, and_true, eq_self, Int.zero_add, Bool.false_eq_true]; repeat ((refine wp_must (by first | (simp only [Bool.and_eq_true, decide_eq_true_eq, List.length_map, List.length_append, List.length_replicate, List.length_cons, List.length_nil]; omega) | exact mulOk_r (by omega) (by omega) | exact mulOk_l (by omega) (by omega) | exact PD.divOk_of (by omega)) ?_); simp -failIfUnchanged -dsimp -implicitDefEqProofs only [↓PD.Wa, PD.Wb0, PD.Wb1, PD.Wb2, PD.Wb3, PD.Wb4, PD.Wb5, PD.lim, PD.smallI, List.getD_cons_zero, List.getD_cons_succ, List.flatten_cons, List.flatten_nil, PD.setMany, Int.toNat_natCast, List.getElem?_cons_zero, List.getElem?_cons_succ, List.set_cons_zero, List.set_cons_succ, List.length_cons, List.length_nil, List.length_map, List.length_append, List.length_reverse, List.length_replicate, List.length_range, List.nil_append, List.append_nil, List.cons_append, Nat.zero_add, Nat.add_zero, Bool.not_true, Bool.not_false, if_true, if_false, ite_true, ite_false, decide_true, decide_false, Bool.and_true, Bool.true_and, Bool.and_false, Bool.false_and, Option.toList_none, Option.toList_some, Option.bind_some, List.replicate_zero, List.replicate_succ, List.map_nil, List.map_cons, Nat.reduceSub, Nat.reduceAdd, Nat.reduceMul, Nat.reduceLeDiff, Nat.reduceLT, Nat.reduceEqDiff, Int.reduceLE, Int.reduceLT, Int.reduceNeg, Int.reduceMul, Int.reduceAdd, Int.reduceSub, Int.reducePow, Int.reduceToNat, Int.reduceEq, true_and, and_true, eq_self, Int.zero_add, Bool.false_eq_true]))
  exact hq
theorem wp_less {k : Nat} {a : List Int} {st : Store} {Q : D → Store → Prop} (hl : a.length ≤ 400000) (hq : Q (.tup ((difR a).map D.int)) st) : Wp (callF fns (k + 1) 9 [.tup (a.map D.int)] st) Q := by
  refine wp_call (fn := f9) rfl rfl ?_
  show Wp (ex _ b9 [some (.tup (a.map D.int)), none, none] st) (CallQ false _ Q)
  cases a with
  | nil =>
    (simp -failIfUnchanged -dsimp -implicitDefEqProofs only [↓PD.Wa, PD.Wb0, PD.Wb1, PD.Wb2, PD.Wb3, PD.Wb4, PD.Wb5, PD.lim, PD.smallI, List.getD_cons_zero, List.getD_cons_succ, List.flatten_cons, List.flatten_nil, PD.setMany, Int.toNat_natCast, List.getElem?_cons_zero, List.getElem?_cons_succ, List.set_cons_zero, List.set_cons_succ, List.length_cons, List.length_nil, List.length_map, List.length_append, List.length_reverse, List.length_replicate, List.length_range, List.nil_append, List.append_nil, List.cons_append, Nat.zero_add, Nat.add_zero, Bool.not_true, Bool.not_false, if_true, if_false, ite_true, ite_false, decide_true, decide_false, Bool.and_true, Bool.true_and, Bool.and_false, Bool.false_and, Option.toList_none, Option.toList_some, Option.bind_some, List.replicate_zero, List.replicate_succ, List.map_nil, List.map_cons, Nat.reduceSub, Nat.reduceAdd, Nat.reduceMul, Nat.reduceLeDiff, Nat.reduceLT, Nat.reduceEqDiff, Int.reduceLE, Int.reduceLT, Int.reduceNeg, Int.reduceMul, Int.reduceAdd, Int.reduceSub, Int.reducePow, Int.reduceToNat, Int.reduceEq, true_and, and_true, eq_self, Int.zero_add, Bool.false_eq_true, b9, x9_0, y9_1, x9_2, x9_3, y9_4, k9_5, y9_6, x9_7, y9_8, k9_9]; repeat ((refine wp_must (by first | (simp only [Bool.and_eq_true, decide_eq_true_eq, List.length_map, List.length_append, List.length_replicate, List.length_cons, List.length_nil]; omega) | exact mulOk_r (by omega) (by omega) | exact mulOk_l (by omega) (by omega) | exact PD.divOk_of (by omega)) ?_); simp -failIfUnchanged -dsimp -implicitDefEqProofs only [↓PD.Wa, PD.Wb0, PD.Wb1, PD.Wb2, PD.Wb3, PD.Wb4, PD.Wb5, PD.lim, PD.smallI, List.getD_cons_zero, List.getD_cons_succ, List.flatten_cons, List.flatten_nil, PD.setMany, Int.toNat_natCast, List.getElem?_cons_zero, List.getElem?_cons_succ, List.set_cons_zero, List.set_cons_succ, List.length_cons, List.length_nil, List.length_map, List.length_append, List.length_reverse, List.length_replicate, List.length_range, List.nil_append, List.append_nil, List.cons_append, Nat.zero_add, Nat.add_zero, Bool.not_true, Bool.not_false, if_true, if_false, ite_true, ite_false, decide_true, decide_false, Bool.and_true, Bool.true_and, Bool.and_false, Bool.false_and, Option.toList_none, Option.toList_some, Option.bind_some, List.replicate_zero, List.replicate_succ, List.map_nil, List.map_cons, Nat.reduceSub, Nat.reduceAdd, Nat.reduceMul, Nat.reduceLeDiff, Nat.reduceLT, Nat.reduceEqDiff, Int.reduceLE, Int.reduceLT, Int.reduceNeg, Int.reduceMul, Int.reduceAdd, Int.reduceSub, Int.reducePow, Int.reduceToNat, Int.reduceEq, true_and, and_true, eq_self, Int.zero_add, Bool.false_eq_true, b9, x9_0, y9_1, x9_2, x9_3, y9_4, k9_5, y9_6, x9_7, y9_8, k9_9]))
    refine wp_forR [2] [none] (fun j vs s => vs = [none] ∧ s = st ++ [.lst []]) rfl ⟨rfl, rfl⟩ ?_ ?_
    · rintro j vs s hj ⟨rfl, rfl⟩
      exact absurd hj (by simp)
    · rintro vs s ⟨rfl, rfl⟩
      (simp -failIfUnchanged -dsimp -implicitDefEqProofs only [↓PD.Wa, PD.Wb0, PD.Wb1, PD.Wb2, PD.Wb3, PD.Wb4, PD.Wb5, PD.lim, PD.smallI, List.getD_cons_zero, List.getD_cons_succ, List.flatten_cons, List.flatten_nil, PD.setMany, Int.toNat_natCast, List.getElem?_cons_zero, List.getElem?_cons_succ, List.set_cons_zero, List.set_cons_succ, List.length_cons, List.length_nil, List.length_map, List.length_append, List.length_reverse, List.length_replicate, List.length_range, List.nil_append, List.append_nil, List.cons_append, Nat.zero_add, Nat.add_zero, Bool.not_true, Bool.not_false, if_true, if_false, ite_true, ite_false, decide_true, decide_false, Bool.and_true, Bool.true_and, Bool.and_false, Bool.false_and, Option.toList_none, Option.toList_some, Option.bind_some, List.replicate_zero, List.replicate_succ, List.map_nil, List.map_cons, Nat.reduceSub, Nat.reduceAdd, Nat.reduceMul, Nat.reduceLeDiff, Nat.reduceLT, Nat.reduceEqDiff, Int.reduceLE, Int.reduceLT, Int.reduceNeg, Int.reduceMul, Int.reduceAdd, Int.reduceSub, Int.reducePow, Int.reduceToNat, Int.reduceEq, true_and, and_true, eq_self, Int.zero_add, Bool.false_eq_true]; repeat ((refine wp_must (by first | (simp only [Bool.and_eq_true, decide_eq_true_eq, List.length_map, List.length_append, List.length_replicate, List.length_cons, List.length_nil]; omega) | exact mulOk_r (by omega) (by omega) | exact mulOk_l (by omega) (by omega) | exact PD.divOk_of (by omega)) ?_); simp -failIfUnchanged -dsimp -implicitDefEqProofs only [↓PD.Wa, PD.Wb0, PD.Wb1, PD.Wb2, PD.Wb3, PD.Wb4, PD.Wb5, PD.lim, PD.smallI, List.getD_cons_zero, List.getD_cons_succ, List.flatten_cons, List.flatten_nil, PD.setMany, Int.toNat_natCast, List.getElem?_cons_zero, List.getElem?_cons_succ, List.set_cons_zero, List.set_cons_succ, List.length_cons, List.length_nil, List.length_map, List.length_append, List.length_reverse, List.length_replicate, List.length_range, List.nil_append, List.append_nil, List.cons_append, Nat.zero_add, Nat.add_zero, Bool.not_true, Bool.not_false, if_true, if_false, ite_true, ite_false, decide_true, decide_false, Bool.and_true, Bool.true_and, Bool.and_false, Bool.false_and, Option.toList_none, Option.toList_some, Option.bind_some, List.replicate_zero, List.replicate_succ, List.map_nil, List.map_cons, Nat.reduceSub, Nat.reduceAdd, Nat.reduceMul, Nat.reduceLeDiff, Nat.reduceLT, Nat.reduceEqDiff, Int.reduceLE, Int.reduceLT, Int.reduceNeg, Int.reduceMul, Int.reduceAdd, Int.reduceSub, Int.reducePow, Int.reduceToNat, Int.reduceEq, true_and, and_true, eq_self, Int.zero_add, Bool.false_eq_true]))
      rw [end_own (by rw [bare_tup, bareL_nil])]
      exact hq
  | cons x r =>
    have i0 : idxM (.tup ((x :: r).map D.int)) (.int 0) = rtn (.d (.int x)) := idx0_tup
    have ne : decide (x :: r = []) = false := rfl
    have ne2 : cmpM .ne (.tup ((x :: r).map D.int)) (.tup []) = rtn true := ne_tI0 (x :: r)
    have lr : (x :: r).length = r.length + 1 := rfl
    generalize ea : x :: r = a at *
    (simp -failIfUnchanged -dsimp -implicitDefEqProofs only [↓PD.Wa, PD.Wb0, PD.Wb1, PD.Wb2, PD.Wb3, PD.Wb4, PD.Wb5, PD.lim, PD.smallI, List.getD_cons_zero, List.getD_cons_succ, List.flatten_cons, List.flatten_nil, PD.setMany, Int.toNat_natCast, List.getElem?_cons_zero, List.getElem?_cons_succ, List.set_cons_zero, List.set_cons_succ, List.length_cons, List.length_nil, List.length_map, List.length_append, List.length_reverse, List.length_replicate, List.length_range, List.nil_append, List.append_nil, List.cons_append, Nat.zero_add, Nat.add_zero, Bool.not_true, Bool.not_false, if_true, if_false, ite_true, ite_false, decide_true, decide_false, Bool.and_true, Bool.true_and, Bool.and_false, Bool.false_and, Option.toList_none, Option.toList_some, Option.bind_some, List.replicate_zero, List.replicate_succ, List.map_nil, List.map_cons, Nat.reduceSub, Nat.reduceAdd, Nat.reduceMul, Nat.reduceLeDiff, Nat.reduceLT, Nat.reduceEqDiff, Int.reduceLE, Int.reduceLT, Int.reduceNeg, Int.reduceMul, Int.reduceAdd, Int.reduceSub, Int.reducePow, Int.reduceToNat, Int.reduceEq, true_and, and_true, eq_self, Int.zero_add, Bool.false_eq_true, b9, x9_0, y9_1, x9_2, x9_3, y9_4, k9_5, y9_6, x9_7, y9_8, k9_9, i0, ne2]; repeat ((refine wp_must (by first | (simp only [Bool.and_eq_true, decide_eq_true_eq, List.length_map, List.length_append, List.length_replicate, List.length_cons, List.length_nil]; omega) | exact mulOk_r (by omega) (by omega) | exact mulOk_l (by omega) (by omega) | exact PD.divOk_of (by omega)) ?_); simp -failIfUnchanged -dsimp -implicitDefEqProofs only [↓PD.Wa, PD.Wb0, PD.Wb1, PD.Wb2, PD.Wb3, PD.Wb4, PD.Wb5, PD.lim, PD.smallI, List.getD_cons_zero, List.getD_cons_succ, List.flatten_cons, List.flatten_nil, PD.setMany, Int.toNat_natCast, List.getElem?_cons_zero, List.getElem?_cons_succ, List.set_cons_zero, List.set_cons_succ, List.length_cons, List.length_nil, List.length_map, List.length_append, List.length_reverse, List.length_replicate, List.length_range, List.nil_append, List.append_nil, List.cons_append, Nat.zero_add, Nat.add_zero, Bool.not_true, Bool.not_false, if_true, if_false, ite_true, ite_false, decide_true, decide_false, Bool.and_true, Bool.true_and, Bool.and_false, Bool.false_and, Option.toList_none, Option.toList_some, Option.bind_some, List.replicate_zero, List.replicate_succ, List.map_nil, List.map_cons, Nat.reduceSub, Nat.reduceAdd, Nat.reduceMul, Nat.reduceLeDiff, Nat.reduceLT, Nat.reduceEqDiff, Int.reduceLE, Int.reduceLT, Int.reduceNeg, Int.reduceMul, Int.reduceAdd, Int.reduceSub, Int.reducePow, Int.reduceToNat, Int.reduceEq, true_and, and_true, eq_self, Int.zero_add, Bool.false_eq_true, b9, x9_0, y9_1, x9_2, x9_3, y9_4, k9_5, y9_6, x9_7, y9_8, k9_9, i0, ne2]))
    refine wp_forR [2] [none] (fun j vs s => ∃ y, vs = [y] ∧ s = st ++ [.lst (((dfl 0 a).take (j + 1)).map D.int)]) rfl ⟨none, rfl, ?_⟩ ?_ ?_
    · rw [← ea]; simp [dfl]
    · rintro j vs s hj ⟨y, rfl, rfl⟩
      have hj : j + 1 < a.length := by omega
      have i1 : idxM (.tup (a.map D.int)) (.int (1 + (j : Int))) = rtn (.d (.int (a.getD (1 + (j : Int)).toNat 0))) := idx_tI (by omega)
      have i2 : idxM (.tup (a.map D.int)) (.int (1 + (j : Int) - 1)) = rtn (.d (.int (a.getD (1 + (j : Int) - 1).toNat 0))) := idx_tI (by omega)
      have lt : ((dfl 0 a).take (j + 1)).length ≤ 1000000 := by rw [List.length_take]; omega
      (simp -failIfUnchanged -dsimp -implicitDefEqProofs only [↓PD.Wa, PD.Wb0, PD.Wb1, PD.Wb2, PD.Wb3, PD.Wb4, PD.Wb5, PD.lim, PD.smallI, List.getD_cons_zero, List.getD_cons_succ, List.flatten_cons, List.flatten_nil, PD.setMany, Int.toNat_natCast, List.getElem?_cons_zero, List.getElem?_cons_succ, List.set_cons_zero, List.set_cons_succ, List.length_cons, List.length_nil, List.length_map, List.length_append, List.length_reverse, List.length_replicate, List.length_range, List.nil_append, List.append_nil, List.cons_append, Nat.zero_add, Nat.add_zero, Bool.not_true, Bool.not_false, if_true, if_false, ite_true, ite_false, decide_true, decide_false, Bool.and_true, Bool.true_and, Bool.and_false, Bool.false_and, Option.toList_none, Option.toList_some, Option.bind_some, List.replicate_zero, List.replicate_succ, List.map_nil, List.map_cons, Nat.reduceSub, Nat.reduceAdd, Nat.reduceMul, Nat.reduceLeDiff, Nat.reduceLT, Nat.reduceEqDiff, Int.reduceLE, Int.reduceLT, Int.reduceNeg, Int.reduceMul, Int.reduceAdd, Int.reduceSub, Int.reducePow, Int.reduceToNat, Int.reduceEq, true_and, and_true, eq_self, Int.zero_add, Bool.false_eq_true, i1, i2, map_one, List.set_cons_zero]; repeat ((refine wp_must (by first | (simp only [Bool.and_eq_true, decide_eq_true_eq, List.length_map, List.length_append, List.length_replicate, List.length_cons, List.length_nil]; omega) | exact mulOk_r (by omega) (by omega) | exact mulOk_l (by omega) (by omega) | exact PD.divOk_of (by omega)) ?_); simp -failIfUnchanged -dsimp -implicitDefEqProofs only [↓PD.Wa, PD.Wb0, PD.Wb1, PD.Wb2, PD.Wb3, PD.Wb4, PD.Wb5, PD.lim, PD.smallI, List.getD_cons_zero, List.getD_cons_succ, List.flatten_cons, List.flatten_nil, PD.setMany, Int.toNat_natCast, List.getElem?_cons_zero, List.getElem?_cons_succ, List.set_cons_zero, List.set_cons_succ, List.length_cons, List.length_nil, List.length_map, List.length_append, List.length_reverse, List.length_replicate, List.length_range, List.nil_append, List.append_nil, List.cons_append, Nat.zero_add, Nat.add_zero, Bool.not_true, Bool.not_false, if_true, if_false, ite_true, ite_false, decide_true, decide_false, Bool.and_true, Bool.true_and, Bool.and_false, Bool.false_and, Option.toList_none, Option.toList_some, Option.bind_some, List.replicate_zero, List.replicate_succ, List.map_nil, List.map_cons, Nat.reduceSub, Nat.reduceAdd, Nat.reduceMul, Nat.reduceLeDiff, Nat.reduceLT, Nat.reduceEqDiff, Int.reduceLE, Int.reduceLT, Int.reduceNeg, Int.reduceMul, Int.reduceAdd, Int.reduceSub, Int.reducePow, Int.reduceToNat, Int.reduceEq, true_and, and_true, eq_self, Int.zero_add, Bool.false_eq_true, i1, i2, map_one, List.set_cons_zero]))
      refine ⟨[_], rfl, _, rfl, ?_⟩
      have e1 : (1 + (j : Int)).toNat = j + 1 := by omega
      have e2 : (1 + (j : Int) - 1).toNat = j := by omega
      have hd : (dfl 0 a)[j + 1]? = some (a.getD (j + 1) 0 - a.getD j 0) := by
        have hlt : j + 1 < (dfl 0 a).length := by rw [dfl_len]; exact hj
        have := co_dfl 0 a (j + 1) hj
        rw [co_cons] at this
        unfold co at this
        rw [List.getD_eq_getElem?_getD, List.getElem?_eq_getElem hlt] at this
        rw [List.getElem?_eq_getElem hlt]
        exact congrArg some this
      have e3 : (dfl 0 a).take (j + 1 + 1) = (dfl 0 a).take (j + 1) ++ [a.getD (j + 1) 0 - a.getD j 0] := by rw [List.take_add_one, hd]; rfl
      rw [e1, e2, e3]
    · rintro vs s ⟨y, rfl, rfl⟩
      have im : idxM (.tup (a.map D.int)) (.int (-1)) = rtn (.d (.int (a.getD (a.length - 1) 0))) := idx_tIm (by omega)
      have ld := dfl_len 0 a
      have lt : ((dfl 0 a).take (((a.length : Int) - 1).toNat + 1)).length ≤ 400000 := by rw [List.length_take]; omega
      (simp -failIfUnchanged -dsimp -implicitDefEqProofs only [↓PD.Wa, PD.Wb0, PD.Wb1, PD.Wb2, PD.Wb3, PD.Wb4, PD.Wb5, PD.lim, PD.smallI, List.getD_cons_zero, List.getD_cons_succ, List.flatten_cons, List.flatten_nil, PD.setMany, Int.toNat_natCast, List.getElem?_cons_zero, List.getElem?_cons_succ, List.set_cons_zero, List.set_cons_succ, List.length_cons, List.length_nil, List.length_map, List.length_append, List.length_reverse, List.length_replicate, List.length_range, List.nil_append, List.append_nil, List.cons_append, Nat.zero_add, Nat.add_zero, Bool.not_true, Bool.not_false, if_true, if_false, ite_true, ite_false, decide_true, decide_false, Bool.and_true, Bool.true_and, Bool.and_false, Bool.false_and, Option.toList_none, Option.toList_some, Option.bind_some, List.replicate_zero, List.replicate_succ, List.map_nil, List.map_cons, Nat.reduceSub, Nat.reduceAdd, Nat.reduceMul, Nat.reduceLeDiff, Nat.reduceLT, Nat.reduceEqDiff, Int.reduceLE, Int.reduceLT, Int.reduceNeg, Int.reduceMul, Int.reduceAdd, Int.reduceSub, Int.reducePow, Int.reduceToNat, Int.reduceEq, true_and, and_true, eq_self, Int.zero_add, Bool.false_eq_true, im, ne2]; repeat ((refine wp_must (by first | (simp only [Bool.and_eq_true, decide_eq_true_eq, List.length_map, List.length_append, List.length_replicate, List.length_cons, List.length_nil]; omega) | exact mulOk_r (by omega) (by omega) | exact mulOk_l (by omega) (by omega) | exact PD.divOk_of (by omega)) ?_); simp -failIfUnchanged -dsimp -implicitDefEqProofs only [↓PD.Wa, PD.Wb0, PD.Wb1, PD.Wb2, PD.Wb3, PD.Wb4, PD.Wb5, PD.lim, PD.smallI, List.getD_cons_zero, List.getD_cons_succ, List.flatten_cons, List.flatten_nil, PD.setMany, Int.toNat_natCast, List.getElem?_cons_zero, List.getElem?_cons_succ, List.set_cons_zero, List.set_cons_succ, List.length_cons, List.length_nil, List.length_map, List.length_append, List.length_reverse, List.length_replicate, List.length_range, List.nil_append, List.append_nil, List.cons_append, Nat.zero_add, Nat.add_zero, Bool.not_true, Bool.not_false, if_true, if_false, ite_true, ite_false, decide_true, decide_false, Bool.and_true, Bool.true_and, Bool.and_false, Bool.false_and, Option.toList_none, Option.toList_some, Option.bind_some, List.replicate_zero, List.replicate_succ, List.map_nil, List.map_cons, Nat.reduceSub, Nat.reduceAdd, Nat.reduceMul, Nat.reduceLeDiff, Nat.reduceLT, Nat.reduceEqDiff, Int.reduceLE, Int.reduceLT, Int.reduceNeg, Int.reduceMul, Int.reduceAdd, Int.reduceSub, Int.reducePow, Int.reduceToNat, Int.reduceEq, true_and, and_true, eq_self, Int.zero_add, Bool.false_eq_true, im, ne2]))
      rw [map_one, end_own (by rw [bare_tup]; exact bare_ints _)]
      have e : (dfl 0 a).take (((a.length : Int) - 1).toNat + 1) ++ [0 - a.getD (a.length - 1) 0] = difR a := by
        unfold difR
        rw [if_neg (by rw [← ea]; simp), dfl_snoc, List.take_of_length_le (by omega)]
        congr 2
        rw [List.getLast?_eq_getElem?, List.getD_eq_getElem?_getD, List.getElem?_eq_getElem (by omega)]
      rw [e]
      exact hq
/-! the law's own look at turns -/
structure Tn (p : List Int) (found last way : Int) : Prop where
  f : found = trn (sgs (dfl 0 p))
  l : last = p.getLast?.getD 0
  w : (sgs (dfl 0 p)).getLast? = if way = 0 then none else some (decide (0 < way))
  s : way = 0 ∨ way = 1 ∨ way = -1
theorem tn_same {p : List Int} {found last way x : Int} (h : Tn p found last way) (hx : x = last) : Tn (p ++ [x]) found x way := by
  have e : sgs (dfl 0 (p ++ [x])) = sgs (dfl 0 p) := by
    rw [dfl_snoc, ← h.l, sgs_app, hx, Int.sub_self]
    exact List.append_nil _
  exact ⟨by rw [e]; exact h.f, by simp, by rw [e]; exact h.w, h.s⟩
theorem tn_step {p : List Int} {found last way x : Int} (h : Tn p found last way) (hx : x ≠ last) (step : Int) (hs : step = if last < x then 1 else -1) :
    Tn (p ++ [x]) (found + if way ≠ 0 ∧ step ≠ way then 1 else 0) x step := by
  have hd : x - last ≠ 0 := by omega
  have e : sgs (dfl 0 (p ++ [x])) = sgs (dfl 0 p) ++ [decide (0 < x - last)] := by
    rw [dfl_snoc, ← h.l, sgs_app]
    congr 1
    unfold sgs
    rw [List.filterMap_cons_some (b := decide (0 < x - last)) (by rw [if_pos hd])]; rfl
  have h1 : decide (0 < x - last) = decide (0 < step) := by
    rw [hs]
    by_cases q : last < x
    · rw [if_pos q, decide_eq_true (by omega)]; rfl
    · rw [if_neg q, decide_eq_false (by omega)]; rfl
  have hs2 : step = 1 ∨ step = -1 := by rw [hs]; split <;> simp
  refine ⟨?_, by simp, ?_, .inr hs2⟩
  · rw [e, trn_app, h.w, h1, h.f]
    show _ = ((trn (sgs (dfl 0 p)) + 0 + meet (if way = 0 then none else some (decide (0 < way))) (some (decide (0 < step))) : Nat) : Int)
    rcases h.s with w0 | w0 | w0 <;> rcases hs2 with s0 | s0 <;> rw [w0, s0] <;> simp [meet]
  · rw [e, List.getLast?_append, h1]
    rcases hs2 with s0 | s0 <;> rw [s0] <;> simp
theorem wp_lturns {k : Nat} {a : List Int} {st : Store} {Q : D → Store → Prop} (hl : a.length ≤ 400000) (hq : Q (.int (trn (sgs (difR a)))) st) : Wp (callF fns (k + 1) 10 [.tup (a.map D.int)] st) Q := by
  refine wp_call (fn := f10) rfl rfl ?_
  show Wp (ex _ b10 [some (.tup (a.map D.int)), none, none, none, none, none] st) (CallQ false _ Q)
  (simp -failIfUnchanged -dsimp -implicitDefEqProofs only [↓PD.Wa, PD.Wb0, PD.Wb1, PD.Wb2, PD.Wb3, PD.Wb4, PD.Wb5, PD.lim, PD.smallI, List.getD_cons_zero, List.getD_cons_succ, List.flatten_cons, List.flatten_nil, PD.setMany, Int.toNat_natCast, List.getElem?_cons_zero, List.getElem?_cons_succ, List.set_cons_zero, List.set_cons_succ, List.length_cons, List.length_nil, List.length_map, List.length_append, List.length_reverse, List.length_replicate, List.length_range, List.nil_append, List.append_nil, List.cons_append, Nat.zero_add, Nat.add_zero, Bool.not_true, Bool.not_false, if_true, if_false, ite_true, ite_false, decide_true, decide_false, Bool.and_true, Bool.true_and, Bool.and_false, Bool.false_and, Option.toList_none, Option.toList_some, Option.bind_some, List.replicate_zero, List.replicate_succ, List.map_nil, List.map_cons, Nat.reduceSub, Nat.reduceAdd, Nat.reduceMul, Nat.reduceLeDiff, Nat.reduceLT, Nat.reduceEqDiff, Int.reduceLE, Int.reduceLT, Int.reduceNeg, Int.reduceMul, Int.reduceAdd, Int.reduceSub, Int.reducePow, Int.reduceToNat, Int.reduceEq, true_and, and_true, eq_self, Int.zero_add, Bool.false_eq_true, b10, x10_0, x10_1, x10_2, y10_3, x10_4, x10_5, x10_6, y10_7, x10_8, y10_9, x10_10, y10_11, k10_12, k10_13, y10_14, x10_15, y10_16, k10_17, y10_18, x10_19, y10_20, k10_21, map_one]; repeat ((refine wp_must (by first | (simp only [Bool.and_eq_true, decide_eq_true_eq, List.length_map, List.length_append, List.length_replicate, List.length_cons, List.length_nil]; omega) | exact mulOk_r (by omega) (by omega) | exact mulOk_l (by omega) (by omega) | exact PD.divOk_of (by omega)) ?_); simp -failIfUnchanged -dsimp -implicitDefEqProofs only [↓PD.Wa, PD.Wb0, PD.Wb1, PD.Wb2, PD.Wb3, PD.Wb4, PD.Wb5, PD.lim, PD.smallI, List.getD_cons_zero, List.getD_cons_succ, List.flatten_cons, List.flatten_nil, PD.setMany, Int.toNat_natCast, List.getElem?_cons_zero, List.getElem?_cons_succ, List.set_cons_zero, List.set_cons_succ, List.length_cons, List.length_nil, List.length_map, List.length_append, List.length_reverse, List.length_replicate, List.length_range, List.nil_append, List.append_nil, List.cons_append, Nat.zero_add, Nat.add_zero, Bool.not_true, Bool.not_false, if_true, if_false, ite_true, ite_false, decide_true, decide_false, Bool.and_true, Bool.true_and, Bool.and_false, Bool.false_and, Option.toList_none, Option.toList_some, Option.bind_some, List.replicate_zero, List.replicate_succ, List.map_nil, List.map_cons, Nat.reduceSub, Nat.reduceAdd, Nat.reduceMul, Nat.reduceLeDiff, Nat.reduceLT, Nat.reduceEqDiff, Int.reduceLE, Int.reduceLT, Int.reduceNeg, Int.reduceMul, Int.reduceAdd, Int.reduceSub, Int.reducePow, Int.reduceToNat, Int.reduceEq, true_and, and_true, eq_self, Int.zero_add, Bool.false_eq_true, b10, x10_0, x10_1, x10_2, y10_3, x10_4, x10_5, x10_6, y10_7, x10_8, y10_9, x10_10, y10_11, k10_12, k10_13, y10_14, x10_15, y10_16, k10_17, y10_18, x10_19, y10_20, k10_21, map_one]))
  refine wp_for D.int (a ++ [0]) [1, 2, 3, 4, 5] [none, some (.int 0), some (.int 0), some (.int 0), none] (fun p vs s => ∃ h f l w z, vs = [h, some (.int f), some (.int l), some (.int w), z] ∧ s = st ∧ Tn p f l w) rfl rfl ⟨_, _, _, _, _, rfl, rfl, ⟨rfl, rfl, rfl, .inl rfl⟩⟩ ?_ ?_
  · rintro p x r vs s hp ⟨h, f, l, w, z, rfl, rfl, ht⟩
    by_cases hx : x = l
    · (simp -failIfUnchanged -dsimp -implicitDefEqProofs only [↓PD.Wa, PD.Wb0, PD.Wb1, PD.Wb2, PD.Wb3, PD.Wb4, PD.Wb5, PD.lim, PD.smallI, List.getD_cons_zero, List.getD_cons_succ, List.flatten_cons, List.flatten_nil, PD.setMany, Int.toNat_natCast, List.getElem?_cons_zero, List.getElem?_cons_succ, List.set_cons_zero, List.set_cons_succ, List.length_cons, List.length_nil, List.length_map, List.length_append, List.length_reverse, List.length_replicate, List.length_range, List.nil_append, List.append_nil, List.cons_append, Nat.zero_add, Nat.add_zero, Bool.not_true, Bool.not_false, if_true, if_false, ite_true, ite_false, decide_true, decide_false, Bool.and_true, Bool.true_and, Bool.and_false, Bool.false_and, Option.toList_none, Option.toList_some, Option.bind_some, List.replicate_zero, List.replicate_succ, List.map_nil, List.map_cons, Nat.reduceSub, Nat.reduceAdd, Nat.reduceMul, Nat.reduceLeDiff, Nat.reduceLT, Nat.reduceEqDiff, Int.reduceLE, Int.reduceLT, Int.reduceNeg, Int.reduceMul, Int.reduceAdd, Int.reduceSub, Int.reducePow, Int.reduceToNat, Int.reduceEq, true_and, and_true, eq_self, Int.zero_add, Bool.false_eq_true, decide_eq_true hx]; repeat ((refine wp_must (by first | (simp only [Bool.and_eq_true, decide_eq_true_eq, List.length_map, List.length_append, List.length_replicate, List.length_cons, List.length_nil]; omega) | exact mulOk_r (by omega) (by omega) | exact mulOk_l (by omega) (by omega) | exact PD.divOk_of (by omega)) ?_); simp -failIfUnchanged -dsimp -implicitDefEqProofs only [↓PD.Wa, PD.Wb0, PD.Wb1, PD.Wb2, PD.Wb3, PD.Wb4, PD.Wb5, PD.lim, PD.smallI, List.getD_cons_zero, List.getD_cons_succ, List.flatten_cons, List.flatten_nil, PD.setMany, Int.toNat_natCast, List.getElem?_cons_zero, List.getElem?_cons_succ, List.set_cons_zero, List.set_cons_succ, List.length_cons, List.length_nil, List.length_map, List.length_append, List.length_reverse, List.length_replicate, List.length_range, List.nil_append, List.append_nil, List.cons_append, Nat.zero_add, Nat.add_zero, Bool.not_true, Bool.not_false, if_true, if_false, ite_true, ite_false, decide_true, decide_false, Bool.and_true, Bool.true_and, Bool.and_false, Bool.false_and, Option.toList_none, Option.toList_some, Option.bind_some, List.replicate_zero, List.replicate_succ, List.map_nil, List.map_cons, Nat.reduceSub, Nat.reduceAdd, Nat.reduceMul, Nat.reduceLeDiff, Nat.reduceLT, Nat.reduceEqDiff, Int.reduceLE, Int.reduceLT, Int.reduceNeg, Int.reduceMul, Int.reduceAdd, Int.reduceSub, Int.reducePow, Int.reduceToNat, Int.reduceEq, true_and, and_true, eq_self, Int.zero_add, Bool.false_eq_true, decide_eq_true hx]))
      exact ⟨[_, _, _, _, _], rfl, _, _, _, _, _, rfl, tn_same ht hx⟩
    · (simp -failIfUnchanged -dsimp -implicitDefEqProofs only [↓PD.Wa, PD.Wb0, PD.Wb1, PD.Wb2, PD.Wb3, PD.Wb4, PD.Wb5, PD.lim, PD.smallI, List.getD_cons_zero, List.getD_cons_succ, List.flatten_cons, List.flatten_nil, PD.setMany, Int.toNat_natCast, List.getElem?_cons_zero, List.getElem?_cons_succ, List.set_cons_zero, List.set_cons_succ, List.length_cons, List.length_nil, List.length_map, List.length_append, List.length_reverse, List.length_replicate, List.length_range, List.nil_append, List.append_nil, List.cons_append, Nat.zero_add, Nat.add_zero, Bool.not_true, Bool.not_false, if_true, if_false, ite_true, ite_false, decide_true, decide_false, Bool.and_true, Bool.true_and, Bool.and_false, Bool.false_and, Option.toList_none, Option.toList_some, Option.bind_some, List.replicate_zero, List.replicate_succ, List.map_nil, List.map_cons, Nat.reduceSub, Nat.reduceAdd, Nat.reduceMul, Nat.reduceLeDiff, Nat.reduceLT, Nat.reduceEqDiff, Int.reduceLE, Int.reduceLT, Int.reduceNeg, Int.reduceMul, Int.reduceAdd, Int.reduceSub, Int.reducePow, Int.reduceToNat, Int.reduceEq, true_and, and_true, eq_self, Int.zero_add, Bool.false_eq_true, decide_eq_false hx]; repeat ((refine wp_must (by first | (simp only [Bool.and_eq_true, decide_eq_true_eq, List.length_map, List.length_append, List.length_replicate, List.length_cons, List.length_nil]; omega) | exact mulOk_r (by omega) (by omega) | exact mulOk_l (by omega) (by omega) | exact PD.divOk_of (by omega)) ?_); simp -failIfUnchanged -dsimp -implicitDefEqProofs only [↓PD.Wa, PD.Wb0, PD.Wb1, PD.Wb2, PD.Wb3, PD.Wb4, PD.Wb5, PD.lim, PD.smallI, List.getD_cons_zero, List.getD_cons_succ, List.flatten_cons, List.flatten_nil, PD.setMany, Int.toNat_natCast, List.getElem?_cons_zero, List.getElem?_cons_succ, List.set_cons_zero, List.set_cons_succ, List.length_cons, List.length_nil, List.length_map, List.length_append, List.length_reverse, List.length_replicate, List.length_range, List.nil_append, List.append_nil, List.cons_append, Nat.zero_add, Nat.add_zero, Bool.not_true, Bool.not_false, if_true, if_false, ite_true, ite_false, decide_true, decide_false, Bool.and_true, Bool.true_and, Bool.and_false, Bool.false_and, Option.toList_none, Option.toList_some, Option.bind_some, List.replicate_zero, List.replicate_succ, List.map_nil, List.map_cons, Nat.reduceSub, Nat.reduceAdd, Nat.reduceMul, Nat.reduceLeDiff, Nat.reduceLT, Nat.reduceEqDiff, Int.reduceLE, Int.reduceLT, Int.reduceNeg, Int.reduceMul, Int.reduceAdd, Int.reduceSub, Int.reducePow, Int.reduceToNat, Int.reduceEq, true_and, and_true, eq_self, Int.zero_add, Bool.false_eq_true, decide_eq_false hx]))
      by_cases hlt : l < x
      · have t1 := tn_step ht hx 1 (by rw [if_pos hlt])
        by_cases hw : w = 0
        · (simp -failIfUnchanged -dsimp -implicitDefEqProofs only [↓PD.Wa, PD.Wb0, PD.Wb1, PD.Wb2, PD.Wb3, PD.Wb4, PD.Wb5, PD.lim, PD.smallI, List.getD_cons_zero, List.getD_cons_succ, List.flatten_cons, List.flatten_nil, PD.setMany, Int.toNat_natCast, List.getElem?_cons_zero, List.getElem?_cons_succ, List.set_cons_zero, List.set_cons_succ, List.length_cons, List.length_nil, List.length_map, List.length_append, List.length_reverse, List.length_replicate, List.length_range, List.nil_append, List.append_nil, List.cons_append, Nat.zero_add, Nat.add_zero, Bool.not_true, Bool.not_false, if_true, if_false, ite_true, ite_false, decide_true, decide_false, Bool.and_true, Bool.true_and, Bool.and_false, Bool.false_and, Option.toList_none, Option.toList_some, Option.bind_some, List.replicate_zero, List.replicate_succ, List.map_nil, List.map_cons, Nat.reduceSub, Nat.reduceAdd, Nat.reduceMul, Nat.reduceLeDiff, Nat.reduceLT, Nat.reduceEqDiff, Int.reduceLE, Int.reduceLT, Int.reduceNeg, Int.reduceMul, Int.reduceAdd, Int.reduceSub, Int.reducePow, Int.reduceToNat, Int.reduceEq, true_and, and_true, eq_self, Int.zero_add, Bool.false_eq_true, decide_eq_true hlt, decide_eq_true hw]; repeat ((refine wp_must (by first | (simp only [Bool.and_eq_true, decide_eq_true_eq, List.length_map, List.length_append, List.length_replicate, List.length_cons, List.length_nil]; omega) | exact mulOk_r (by omega) (by omega) | exact mulOk_l (by omega) (by omega) | exact PD.divOk_of (by omega)) ?_); simp -failIfUnchanged -dsimp -implicitDefEqProofs only [↓PD.Wa, PD.Wb0, PD.Wb1, PD.Wb2, PD.Wb3, PD.Wb4, PD.Wb5, PD.lim, PD.smallI, List.getD_cons_zero, List.getD_cons_succ, List.flatten_cons, List.flatten_nil, PD.setMany, Int.toNat_natCast, List.getElem?_cons_zero, List.getElem?_cons_succ, List.set_cons_zero, List.set_cons_succ, List.length_cons, List.length_nil, List.length_map, List.length_append, List.length_reverse, List.length_replicate, List.length_range, List.nil_append, List.append_nil, List.cons_append, Nat.zero_add, Nat.add_zero, Bool.not_true, Bool.not_false, if_true, if_false, ite_true, ite_false, decide_true, decide_false, Bool.and_true, Bool.true_and, Bool.and_false, Bool.false_and, Option.toList_none, Option.toList_some, Option.bind_some, List.replicate_zero, List.replicate_succ, List.map_nil, List.map_cons, Nat.reduceSub, Nat.reduceAdd, Nat.reduceMul, Nat.reduceLeDiff, Nat.reduceLT, Nat.reduceEqDiff, Int.reduceLE, Int.reduceLT, Int.reduceNeg, Int.reduceMul, Int.reduceAdd, Int.reduceSub, Int.reducePow, Int.reduceToNat, Int.reduceEq, true_and, and_true, eq_self, Int.zero_add, Bool.false_eq_true, decide_eq_true hlt, decide_eq_true hw]))
          refine ⟨[_, _, _, _, _], rfl, _, _, _, _, _, rfl, ?_⟩
          simpa [hw] using t1
        · (simp -failIfUnchanged -dsimp -implicitDefEqProofs only [↓PD.Wa, PD.Wb0, PD.Wb1, PD.Wb2, PD.Wb3, PD.Wb4, PD.Wb5, PD.lim, PD.smallI, List.getD_cons_zero, List.getD_cons_succ, List.flatten_cons, List.flatten_nil, PD.setMany, Int.toNat_natCast, List.getElem?_cons_zero, List.getElem?_cons_succ, List.set_cons_zero, List.set_cons_succ, List.length_cons, List.length_nil, List.length_map, List.length_append, List.length_reverse, List.length_replicate, List.length_range, List.nil_append, List.append_nil, List.cons_append, Nat.zero_add, Nat.add_zero, Bool.not_true, Bool.not_false, if_true, if_false, ite_true, ite_false, decide_true, decide_false, Bool.and_true, Bool.true_and, Bool.and_false, Bool.false_and, Option.toList_none, Option.toList_some, Option.bind_some, List.replicate_zero, List.replicate_succ, List.map_nil, List.map_cons, Nat.reduceSub, Nat.reduceAdd, Nat.reduceMul, Nat.reduceLeDiff, Nat.reduceLT, Nat.reduceEqDiff, Int.reduceLE, Int.reduceLT, Int.reduceNeg, Int.reduceMul, Int.reduceAdd, Int.reduceSub, Int.reducePow, Int.reduceToNat, Int.reduceEq, true_and, and_true, eq_self, Int.zero_add, Bool.false_eq_true, decide_eq_true hlt, decide_eq_false hw]; repeat ((refine wp_must (by first | (simp only [Bool.and_eq_true, decide_eq_true_eq, List.length_map, List.length_append, List.length_replicate, List.length_cons, List.length_nil]; omega) | exact mulOk_r (by omega) (by omega) | exact mulOk_l (by omega) (by omega) | exact PD.divOk_of (by omega)) ?_); simp -failIfUnchanged -dsimp -implicitDefEqProofs only [↓PD.Wa, PD.Wb0, PD.Wb1, PD.Wb2, PD.Wb3, PD.Wb4, PD.Wb5, PD.lim, PD.smallI, List.getD_cons_zero, List.getD_cons_succ, List.flatten_cons, List.flatten_nil, PD.setMany, Int.toNat_natCast, List.getElem?_cons_zero, List.getElem?_cons_succ, List.set_cons_zero, List.set_cons_succ, List.length_cons, List.length_nil, List.length_map, List.length_append, List.length_reverse, List.length_replicate, List.length_range, List.nil_append, List.append_nil, List.cons_append, Nat.zero_add, Nat.add_zero, Bool.not_true, Bool.not_false, if_true, if_false, ite_true, ite_false, decide_true, decide_false, Bool.and_true, Bool.true_and, Bool.and_false, Bool.false_and, Option.toList_none, Option.toList_some, Option.bind_some, List.replicate_zero, List.replicate_succ, List.map_nil, List.map_cons, Nat.reduceSub, Nat.reduceAdd, Nat.reduceMul, Nat.reduceLeDiff, Nat.reduceLT, Nat.reduceEqDiff, Int.reduceLE, Int.reduceLT, Int.reduceNeg, Int.reduceMul, Int.reduceAdd, Int.reduceSub, Int.reducePow, Int.reduceToNat, Int.reduceEq, true_and, and_true, eq_self, Int.zero_add, Bool.false_eq_true, decide_eq_true hlt, decide_eq_false hw]))
          refine ⟨[_, _, _, _, _], rfl, _, _, _, _, _, rfl, ?_⟩
          by_cases h1 : 1 = w <;> simpa [hw, h1] using t1
      · have t1 := tn_step ht hx (-1) (by rw [if_neg hlt])
        by_cases hw : w = 0
        · (simp -failIfUnchanged -dsimp -implicitDefEqProofs only [↓PD.Wa, PD.Wb0, PD.Wb1, PD.Wb2, PD.Wb3, PD.Wb4, PD.Wb5, PD.lim, PD.smallI, List.getD_cons_zero, List.getD_cons_succ, List.flatten_cons, List.flatten_nil, PD.setMany, Int.toNat_natCast, List.getElem?_cons_zero, List.getElem?_cons_succ, List.set_cons_zero, List.set_cons_succ, List.length_cons, List.length_nil, List.length_map, List.length_append, List.length_reverse, List.length_replicate, List.length_range, List.nil_append, List.append_nil, List.cons_append, Nat.zero_add, Nat.add_zero, Bool.not_true, Bool.not_false, if_true, if_false, ite_true, ite_false, decide_true, decide_false, Bool.and_true, Bool.true_and, Bool.and_false, Bool.false_and, Option.toList_none, Option.toList_some, Option.bind_some, List.replicate_zero, List.replicate_succ, List.map_nil, List.map_cons, Nat.reduceSub, Nat.reduceAdd, Nat.reduceMul, Nat.reduceLeDiff, Nat.reduceLT, Nat.reduceEqDiff, Int.reduceLE, Int.reduceLT, Int.reduceNeg, Int.reduceMul, Int.reduceAdd, Int.reduceSub, Int.reducePow, Int.reduceToNat, Int.reduceEq, true_and, and_true, eq_self, Int.zero_add, Bool.false_eq_true, decide_eq_false hlt, decide_eq_true hw]; repeat ((refine wp_must (by first | (simp only [Bool.and_eq_true, decide_eq_true_eq, List.length_map, List.length_append, List.length_replicate, List.length_cons, List.length_nil]; omega) | exact mulOk_r (by omega) (by omega) | exact mulOk_l (by omega) (by omega) | exact PD.divOk_of (by omega)) ?_); simp -failIfUnchanged -dsimp -implicitDefEqProofs only [↓PD.Wa, PD.Wb0, PD.Wb1, PD.Wb2, PD.Wb3, PD.Wb4, PD.Wb5, PD.lim, PD.smallI, List.getD_cons_zero, List.getD_cons_succ, List.flatten_cons, List.flatten_nil, PD.setMany, Int.toNat_natCast, List.getElem?_cons_zero, List.getElem?_cons_succ, List.set_cons_zero, List.set_cons_succ, List.length_cons, List.length_nil, List.length_map, List.length_append, List.length_reverse, List.length_replicate, List.length_range, List.nil_append, List.append_nil, List.cons_append, Nat.zero_add, Nat.add_zero, Bool.not_true, Bool.not_false, if_true, if_false, ite_true, ite_false, decide_true, decide_false, Bool.and_true, Bool.true_and, Bool.and_false, Bool.false_and, Option.toList_none, Option.toList_some, Option.bind_some, List.replicate_zero, List.replicate_succ, List.map_nil, List.map_cons, Nat.reduceSub, Nat.reduceAdd, Nat.reduceMul, Nat.reduceLeDiff, Nat.reduceLT, Nat.reduceEqDiff, Int.reduceLE, Int.reduceLT, Int.reduceNeg, Int.reduceMul, Int.reduceAdd, Int.reduceSub, Int.reducePow, Int.reduceToNat, Int.reduceEq, true_and, and_true, eq_self, Int.zero_add, Bool.false_eq_true, decide_eq_false hlt, decide_eq_true hw]))
          refine ⟨[_, _, _, _, _], rfl, _, _, _, _, _, rfl, ?_⟩
          simpa [hw] using t1
        · (simp -failIfUnchanged -dsimp -implicitDefEqProofs only [↓PD.Wa, PD.Wb0, PD.Wb1, PD.Wb2, PD.Wb3, PD.Wb4, PD.Wb5, PD.lim, PD.smallI, List.getD_cons_zero, List.getD_cons_succ, List.flatten_cons, List.flatten_nil, PD.setMany, Int.toNat_natCast, List.getElem?_cons_zero, List.getElem?_cons_succ, List.set_cons_zero, List.set_cons_succ, List.length_cons, List.length_nil, List.length_map, List.length_append, List.length_reverse, List.length_replicate, List.length_range, List.nil_append, List.append_nil, List.cons_append, Nat.zero_add, Nat.add_zero, Bool.not_true, Bool.not_false, if_true, if_false, ite_true, ite_false, decide_true, decide_false, Bool.and_true, Bool.true_and, Bool.and_false, Bool.false_and, Option.toList_none, Option.toList_some, Option.bind_some, List.replicate_zero, List.replicate_succ, List.map_nil, List.map_cons, Nat.reduceSub, Nat.reduceAdd, Nat.reduceMul, Nat.reduceLeDiff, Nat.reduceLT, Nat.reduceEqDiff, Int.reduceLE, Int.reduceLT, Int.reduceNeg, Int.reduceMul, Int.reduceAdd, Int.reduceSub, Int.reducePow, Int.reduceToNat, Int.reduceEq, true_and, and_true, eq_self, Int.zero_add, Bool.false_eq_true, decide_eq_false hlt, decide_eq_false hw]; repeat ((refine wp_must (by first | (simp only [Bool.and_eq_true, decide_eq_true_eq, List.length_map, List.length_append, List.length_replicate, List.length_cons, List.length_nil]; omega) | exact mulOk_r (by omega) (by omega) | exact mulOk_l (by omega) (by omega) | exact PD.divOk_of (by omega)) ?_); simp -failIfUnchanged -dsimp -implicitDefEqProofs only [↓PD.Wa, PD.Wb0, PD.Wb1, PD.Wb2, PD.Wb3, PD.Wb4, PD.Wb5, PD.lim, PD.smallI, List.getD_cons_zero, List.getD_cons_succ, List.flatten_cons, List.flatten_nil, PD.setMany, Int.toNat_natCast, List.getElem?_cons_zero, List.getElem?_cons_succ, List.set_cons_zero, List.set_cons_succ, List.length_cons, List.length_nil, List.length_map, List.length_append, List.length_reverse, List.length_replicate, List.length_range, List.nil_append, List.append_nil, List.cons_append, Nat.zero_add, Nat.add_zero, Bool.not_true, Bool.not_false, if_true, if_false, ite_true, ite_false, decide_true, decide_false, Bool.and_true, Bool.true_and, Bool.and_false, Bool.false_and, Option.toList_none, Option.toList_some, Option.bind_some, List.replicate_zero, List.replicate_succ, List.map_nil, List.map_cons, Nat.reduceSub, Nat.reduceAdd, Nat.reduceMul, Nat.reduceLeDiff, Nat.reduceLT, Nat.reduceEqDiff, Int.reduceLE, Int.reduceLT, Int.reduceNeg, Int.reduceMul, Int.reduceAdd, Int.reduceSub, Int.reducePow, Int.reduceToNat, Int.reduceEq, true_and, and_true, eq_self, Int.zero_add, Bool.false_eq_true, decide_eq_false hlt, decide_eq_false hw]))
          refine ⟨[_, _, _, _, _], rfl, _, _, _, _, _, rfl, ?_⟩
          by_cases h1 : -1 = w <;> simpa [hw, h1] using t1
  · rintro vs s ⟨h, f, l, w, z, rfl, rfl, ht⟩
    have e : f = trn (sgs (difR a)) := by
      rw [ht.f]
      unfold difR
      by_cases q : a = []
      · subst q; rfl
      · rw [if_neg q]
    (simp -failIfUnchanged -dsimp -implicitDefEqProofs only [↓PD.Wa, PD.Wb0, PD.Wb1, PD.Wb2, PD.Wb3, PD.Wb4, PD.Wb5, PD.lim, PD.smallI, List.getD_cons_zero, List.getD_cons_succ, List.flatten_cons, List.flatten_nil, PD.setMany, Int.toNat_natCast, List.getElem?_cons_zero, List.getElem?_cons_succ, List.set_cons_zero, List.set_cons_succ, List.length_cons, List.length_nil, List.length_map, List.length_append, List.length_reverse, List.length_replicate, List.length_range, List.nil_append, List.append_nil, List.cons_append, Nat.zero_add, Nat.add_zero, Bool.not_true, Bool.not_false, if_true, if_false, ite_true, ite_false, decide_true, decide_false, Bool.and_true, Bool.true_and, Bool.and_false, Bool.false_and, Option.toList_none, Option.toList_some, Option.bind_some, List.replicate_zero, List.replicate_succ, List.map_nil, List.map_cons, Nat.reduceSub, Nat.reduceAdd, Nat.reduceMul, Nat.reduceLeDiff, Nat.reduceLT, Nat.reduceEqDiff, Int.reduceLE, Int.reduceLT, Int.reduceNeg, Int.reduceMul, Int.reduceAdd, Int.reduceSub, Int.reducePow, Int.reduceToNat, Int.reduceEq, true_and, and_true, eq_self, Int.zero_add, Bool.false_eq_true]; repeat ((refine wp_must (by first | (simp only [Bool.and_eq_true, decide_eq_true_eq, List.length_map, List.length_append, List.length_replicate, List.length_cons, List.length_nil]; omega) | exact mulOk_r (by omega) (by omega) | exact mulOk_l (by omega) (by omega) | exact PD.divOk_of (by omega)) ?_); simp -failIfUnchanged -dsimp -implicitDefEqProofs only [↓PD.Wa, PD.Wb0, PD.Wb1, PD.Wb2, PD.Wb3, PD.Wb4, PD.Wb5, PD.lim, PD.smallI, List.getD_cons_zero, List.getD_cons_succ, List.flatten_cons, List.flatten_nil, PD.setMany, Int.toNat_natCast, List.getElem?_cons_zero, List.getElem?_cons_succ, List.set_cons_zero, List.set_cons_succ, List.length_cons, List.length_nil, List.length_map, List.length_append, List.length_reverse, List.length_replicate, List.length_range, List.nil_append, List.append_nil, List.cons_append, Nat.zero_add, Nat.add_zero, Bool.not_true, Bool.not_false, if_true, if_false, ite_true, ite_false, decide_true, decide_false, Bool.and_true, Bool.true_and, Bool.and_false, Bool.false_and, Option.toList_none, Option.toList_some, Option.bind_some, List.replicate_zero, List.replicate_succ, List.map_nil, List.map_cons, Nat.reduceSub, Nat.reduceAdd, Nat.reduceMul, Nat.reduceLeDiff, Nat.reduceLT, Nat.reduceEqDiff, Int.reduceLE, Int.reduceLT, Int.reduceNeg, Int.reduceMul, Int.reduceAdd, Int.reduceSub, Int.reducePow, Int.reduceToNat, Int.reduceEq, true_and, and_true, eq_self, Int.zero_add, Bool.false_eq_true]))
    rw [e]
    exact hq
end G05

/-! Plain law of k05: hills, what is right, the law. -/
namespace G05
open PySem PySem.Spec PyProof.Rows L2 PD
theorem dats_two {d n : Nat} {x y : D} {p q : PyData} (h : Dat d n x p) (h2 : Dat d n y q) : Dats d n [x, y] [p, q] := .cons h (.cons h2 .nil)
theorem wp_draw6 {k : Nat} {n b : Int} {d : Dk} {r : Store} {Q : D → Store → Prop} (hd : d.ok n) (hn : n < 2 ^ 59) (hb : 0 < b ∧ b < 2 ^ 31)
    (h : ∀ (j : Nat) (d' : Dk), (j : Int) < b → d'.ok (n + 1) → Q (.int j) (dkS d' r)) : Wp (callF fns (k + 1) 6 [.loc 1, .int b] (dkS d r)) Q :=
  wp_draw (p := 60065) (q := 45) rfl ⟨by decide, by decide⟩ hd hn hb h
theorem wp_pick7 {k : Nat} {n : Int} {d : Dk} {r : Store} {v : D} {xs : List D} {Q : D → Store → Prop} (D0 : d.ok n) (hn : n < 2 ^ 59)
    (hv : v = .lst xs ∨ v = .tup xs) (h0 : 0 < xs.length ∧ xs.length ≤ 1000000) (h : ∀ x d', x ∈ xs → Dk.ok d' (n + 1) → Q x (dkS d' r)) : Wp (callF fns (k + 2) 7 [.loc 1, v] (dkS d r)) Q :=
  wp_pick (fd := 6) (p := 60065) (q := 45) rfl rfl ⟨by decide, by decide⟩ D0 hn hv h0 h
theorem wp_line8 {k : Nat} {n : Int} {d : Dk} {r : Store} {Q : D → Store → Prop} (D0 : d.ok n) (hn : n < 2 ^ 58)
    (h : ∀ ns d', ns.length ≤ 60 → Bd 40 ns → Dk.ok d' (n + 61) → Q (.tup (ns.map D.int)) (dkS d' r)) : Wp (callF fns (k + 3) 8 [.loc 1, .int 60] (dkS d r)) Q :=
  wp_line (fd := 6) (fp := 7) (p := 60065) (q := 45) (e := 9) (l := 999999937) (most := 60) rfl rfl rfl ⟨by decide, by decide⟩ (by decide) (by decide) (by decide) D0 hn fun ns d' h1 h2 h3 => h ns d' h1 h2 (h3.mono (by omega))
theorem wp_hills {k : Nat} {n : Int} {d : Dk} {Q : D → Store → Prop} (D0 : d.ok n) (hn : n < 2 ^ 57)
    (h : ∀ ns d', ns.length ≤ 60 → Bd 40 ns → Dk.ok d' (n + 100) → Q (.tup (ns.map D.int)) (dkS d' [])) : Wp (callF fns (k + 3) 11 [.loc 1] (dkS d [])) Q := by
  refine wp_call (fn := f11) rfl rfl ?_
  show Wp (ex _ b11 [some (.loc 1), none, none, none, none, none] (dkS d [])) (CallQ false _ Q)
  (simp -failIfUnchanged -dsimp -implicitDefEqProofs only [↓PD.Wa, PD.Wb0, PD.Wb1, PD.Wb2, PD.Wb3, PD.Wb4, PD.Wb5, PD.lim, PD.smallI, List.getD_cons_zero, List.getD_cons_succ, List.flatten_cons, List.flatten_nil, PD.setMany, Int.toNat_natCast, List.getElem?_cons_zero, List.getElem?_cons_succ, List.set_cons_zero, List.set_cons_succ, List.length_cons, List.length_nil, List.length_map, List.length_append, List.length_reverse, List.length_replicate, List.length_range, List.nil_append, List.append_nil, List.cons_append, Nat.zero_add, Nat.add_zero, Bool.not_true, Bool.not_false, if_true, if_false, ite_true, ite_false, decide_true, decide_false, Bool.and_true, Bool.true_and, Bool.and_false, Bool.false_and, Option.toList_none, Option.toList_some, Option.bind_some, List.replicate_zero, List.replicate_succ, List.map_nil, List.map_cons, Nat.reduceSub, Nat.reduceAdd, Nat.reduceMul, Nat.reduceLeDiff, Nat.reduceLT, Nat.reduceEqDiff, Int.reduceLE, Int.reduceLT, Int.reduceNeg, Int.reduceMul, Int.reduceAdd, Int.reduceSub, Int.reducePow, Int.reduceToNat, Int.reduceEq, true_and, and_true, eq_self, Int.zero_add, Bool.false_eq_true, b11, x11_0, x11_1, y11_2, x11_3, x11_4, y11_5, x11_6, x11_7, y11_8, x11_9, y11_10, k11_11, y11_12, k11_13, y11_14, x11_15, y11_16, k11_17]; repeat ((refine wp_must (by first | (simp only [Bool.and_eq_true, decide_eq_true_eq, List.length_map, List.length_append, List.length_replicate, List.length_cons, List.length_nil]; omega) | exact mulOk_r (by omega) (by omega) | exact mulOk_l (by omega) (by omega) | exact PD.divOk_of (by omega)) ?_); simp -failIfUnchanged -dsimp -implicitDefEqProofs only [↓PD.Wa, PD.Wb0, PD.Wb1, PD.Wb2, PD.Wb3, PD.Wb4, PD.Wb5, PD.lim, PD.smallI, List.getD_cons_zero, List.getD_cons_succ, List.flatten_cons, List.flatten_nil, PD.setMany, Int.toNat_natCast, List.getElem?_cons_zero, List.getElem?_cons_succ, List.set_cons_zero, List.set_cons_succ, List.length_cons, List.length_nil, List.length_map, List.length_append, List.length_reverse, List.length_replicate, List.length_range, List.nil_append, List.append_nil, List.cons_append, Nat.zero_add, Nat.add_zero, Bool.not_true, Bool.not_false, if_true, if_false, ite_true, ite_false, decide_true, decide_false, Bool.and_true, Bool.true_and, Bool.and_false, Bool.false_and, Option.toList_none, Option.toList_some, Option.bind_some, List.replicate_zero, List.replicate_succ, List.map_nil, List.map_cons, Nat.reduceSub, Nat.reduceAdd, Nat.reduceMul, Nat.reduceLeDiff, Nat.reduceLT, Nat.reduceEqDiff, Int.reduceLE, Int.reduceLT, Int.reduceNeg, Int.reduceMul, Int.reduceAdd, Int.reduceSub, Int.reducePow, Int.reduceToNat, Int.reduceEq, true_and, and_true, eq_self, Int.zero_add, Bool.false_eq_true, b11, x11_0, x11_1, y11_2, x11_3, x11_4, y11_5, x11_6, x11_7, y11_8, x11_9, y11_10, k11_11, y11_12, k11_13, y11_14, x11_15, y11_16, k11_17]))
  refine wp_draw6 (k := k + 1) D0 (by omega) (by decide) fun c d1 hc D1 => ?_
  (simp -failIfUnchanged -dsimp -implicitDefEqProofs only [↓PD.Wa, PD.Wb0, PD.Wb1, PD.Wb2, PD.Wb3, PD.Wb4, PD.Wb5, PD.lim, PD.smallI, List.getD_cons_zero, List.getD_cons_succ, List.flatten_cons, List.flatten_nil, PD.setMany, Int.toNat_natCast, List.getElem?_cons_zero, List.getElem?_cons_succ, List.set_cons_zero, List.set_cons_succ, List.length_cons, List.length_nil, List.length_map, List.length_append, List.length_reverse, List.length_replicate, List.length_range, List.nil_append, List.append_nil, List.cons_append, Nat.zero_add, Nat.add_zero, Bool.not_true, Bool.not_false, if_true, if_false, ite_true, ite_false, decide_true, decide_false, Bool.and_true, Bool.true_and, Bool.and_false, Bool.false_and, Option.toList_none, Option.toList_some, Option.bind_some, List.replicate_zero, List.replicate_succ, List.map_nil, List.map_cons, Nat.reduceSub, Nat.reduceAdd, Nat.reduceMul, Nat.reduceLeDiff, Nat.reduceLT, Nat.reduceEqDiff, Int.reduceLE, Int.reduceLT, Int.reduceNeg, Int.reduceMul, Int.reduceAdd, Int.reduceSub, Int.reducePow, Int.reduceToNat, Int.reduceEq, true_and, and_true, eq_self, Int.zero_add, Bool.false_eq_true]; repeat ((refine wp_must (by first | (simp only [Bool.and_eq_true, decide_eq_true_eq, List.length_map, List.length_append, List.length_replicate, List.length_cons, List.length_nil]; omega) | exact mulOk_r (by omega) (by omega) | exact mulOk_l (by omega) (by omega) | exact PD.divOk_of (by omega)) ?_); simp -failIfUnchanged -dsimp -implicitDefEqProofs only [↓PD.Wa, PD.Wb0, PD.Wb1, PD.Wb2, PD.Wb3, PD.Wb4, PD.Wb5, PD.lim, PD.smallI, List.getD_cons_zero, List.getD_cons_succ, List.flatten_cons, List.flatten_nil, PD.setMany, Int.toNat_natCast, List.getElem?_cons_zero, List.getElem?_cons_succ, List.set_cons_zero, List.set_cons_succ, List.length_cons, List.length_nil, List.length_map, List.length_append, List.length_reverse, List.length_replicate, List.length_range, List.nil_append, List.append_nil, List.cons_append, Nat.zero_add, Nat.add_zero, Bool.not_true, Bool.not_false, if_true, if_false, ite_true, ite_false, decide_true, decide_false, Bool.and_true, Bool.true_and, Bool.and_false, Bool.false_and, Option.toList_none, Option.toList_some, Option.bind_some, List.replicate_zero, List.replicate_succ, List.map_nil, List.map_cons, Nat.reduceSub, Nat.reduceAdd, Nat.reduceMul, Nat.reduceLeDiff, Nat.reduceLT, Nat.reduceEqDiff, Int.reduceLE, Int.reduceLT, Int.reduceNeg, Int.reduceMul, Int.reduceAdd, Int.reduceSub, Int.reducePow, Int.reduceToNat, Int.reduceEq, true_and, and_true, eq_self, Int.zero_add, Bool.false_eq_true]))
  refine wp_forR [1, 3, 4, 5] [none, some (.int 0), none, none] (fun i vs s => ∃ x y z hh ns d2, vs = [x, some (.int hh), y, z] ∧ s = dkS d2 [.lst (ns.map D.int)] ∧ ns.length ≤ 4 * i ∧ hh.natAbs ≤ ns.length * 10000000 ∧ Bd 40 ns ∧ d2.ok (n + 1 + 2 * i)) rfl ⟨none, none, none, 0, [], d1, rfl, rfl, by simp, by simp, bd_nil, D1.mono (by omega)⟩ ?_ ?_
  · rintro i vs s hi ⟨x, y, z, hh, ns, d2, rfl, rfl, hl, hb1, hb, D2⟩
    (simp -failIfUnchanged -dsimp -implicitDefEqProofs only [↓PD.Wa, PD.Wb0, PD.Wb1, PD.Wb2, PD.Wb3, PD.Wb4, PD.Wb5, PD.lim, PD.smallI, List.getD_cons_zero, List.getD_cons_succ, List.flatten_cons, List.flatten_nil, PD.setMany, Int.toNat_natCast, List.getElem?_cons_zero, List.getElem?_cons_succ, List.set_cons_zero, List.set_cons_succ, List.length_cons, List.length_nil, List.length_map, List.length_append, List.length_reverse, List.length_replicate, List.length_range, List.nil_append, List.append_nil, List.cons_append, Nat.zero_add, Nat.add_zero, Bool.not_true, Bool.not_false, if_true, if_false, ite_true, ite_false, decide_true, decide_false, Bool.and_true, Bool.true_and, Bool.and_false, Bool.false_and, Option.toList_none, Option.toList_some, Option.bind_some, List.replicate_zero, List.replicate_succ, List.map_nil, List.map_cons, Nat.reduceSub, Nat.reduceAdd, Nat.reduceMul, Nat.reduceLeDiff, Nat.reduceLT, Nat.reduceEqDiff, Int.reduceLE, Int.reduceLT, Int.reduceNeg, Int.reduceMul, Int.reduceAdd, Int.reduceSub, Int.reducePow, Int.reduceToNat, Int.reduceEq, true_and, and_true, eq_self, Int.zero_add, Bool.false_eq_true]; repeat ((refine wp_must (by first | (simp only [Bool.and_eq_true, decide_eq_true_eq, List.length_map, List.length_append, List.length_replicate, List.length_cons, List.length_nil]; omega) | exact mulOk_r (by omega) (by omega) | exact mulOk_l (by omega) (by omega) | exact PD.divOk_of (by omega)) ?_); simp -failIfUnchanged -dsimp -implicitDefEqProofs only [↓PD.Wa, PD.Wb0, PD.Wb1, PD.Wb2, PD.Wb3, PD.Wb4, PD.Wb5, PD.lim, PD.smallI, List.getD_cons_zero, List.getD_cons_succ, List.flatten_cons, List.flatten_nil, PD.setMany, Int.toNat_natCast, List.getElem?_cons_zero, List.getElem?_cons_succ, List.set_cons_zero, List.set_cons_succ, List.length_cons, List.length_nil, List.length_map, List.length_append, List.length_reverse, List.length_replicate, List.length_range, List.nil_append, List.append_nil, List.cons_append, Nat.zero_add, Nat.add_zero, Bool.not_true, Bool.not_false, if_true, if_false, ite_true, ite_false, decide_true, decide_false, Bool.and_true, Bool.true_and, Bool.and_false, Bool.false_and, Option.toList_none, Option.toList_some, Option.bind_some, List.replicate_zero, List.replicate_succ, List.map_nil, List.map_cons, Nat.reduceSub, Nat.reduceAdd, Nat.reduceMul, Nat.reduceLeDiff, Nat.reduceLT, Nat.reduceEqDiff, Int.reduceLE, Int.reduceLT, Int.reduceNeg, Int.reduceMul, Int.reduceAdd, Int.reduceSub, Int.reducePow, Int.reduceToNat, Int.reduceEq, true_and, and_true, eq_self, Int.zero_add, Bool.false_eq_true]))
    refine wp_pick7 (k := k) D2 (by omega) (.inl rfl) ⟨by simp, by simp⟩ fun t d3 ht D3 => ?_
    obtain ⟨step, hs, rfl⟩ : ∃ c : Int, c.natAbs ≤ 10000000 ∧ t = .int c := by
      simp only [List.mem_cons, List.not_mem_nil, or_false] at ht
      rcases ht with rfl | rfl | rfl | rfl | rfl | rfl <;> exact ⟨_, by decide +kernel, rfl⟩
    (simp -failIfUnchanged -dsimp -implicitDefEqProofs only [↓PD.Wa, PD.Wb0, PD.Wb1, PD.Wb2, PD.Wb3, PD.Wb4, PD.Wb5, PD.lim, PD.smallI, List.getD_cons_zero, List.getD_cons_succ, List.flatten_cons, List.flatten_nil, PD.setMany, Int.toNat_natCast, List.getElem?_cons_zero, List.getElem?_cons_succ, List.set_cons_zero, List.set_cons_succ, List.length_cons, List.length_nil, List.length_map, List.length_append, List.length_reverse, List.length_replicate, List.length_range, List.nil_append, List.append_nil, List.cons_append, Nat.zero_add, Nat.add_zero, Bool.not_true, Bool.not_false, if_true, if_false, ite_true, ite_false, decide_true, decide_false, Bool.and_true, Bool.true_and, Bool.and_false, Bool.false_and, Option.toList_none, Option.toList_some, Option.bind_some, List.replicate_zero, List.replicate_succ, List.map_nil, List.map_cons, Nat.reduceSub, Nat.reduceAdd, Nat.reduceMul, Nat.reduceLeDiff, Nat.reduceLT, Nat.reduceEqDiff, Int.reduceLE, Int.reduceLT, Int.reduceNeg, Int.reduceMul, Int.reduceAdd, Int.reduceSub, Int.reducePow, Int.reduceToNat, Int.reduceEq, true_and, and_true, eq_self, Int.zero_add, Bool.false_eq_true]; repeat ((refine wp_must (by first | (simp only [Bool.and_eq_true, decide_eq_true_eq, List.length_map, List.length_append, List.length_replicate, List.length_cons, List.length_nil]; omega) | exact mulOk_r (by omega) (by omega) | exact mulOk_l (by omega) (by omega) | exact PD.divOk_of (by omega)) ?_); simp -failIfUnchanged -dsimp -implicitDefEqProofs only [↓PD.Wa, PD.Wb0, PD.Wb1, PD.Wb2, PD.Wb3, PD.Wb4, PD.Wb5, PD.lim, PD.smallI, List.getD_cons_zero, List.getD_cons_succ, List.flatten_cons, List.flatten_nil, PD.setMany, Int.toNat_natCast, List.getElem?_cons_zero, List.getElem?_cons_succ, List.set_cons_zero, List.set_cons_succ, List.length_cons, List.length_nil, List.length_map, List.length_append, List.length_reverse, List.length_replicate, List.length_range, List.nil_append, List.append_nil, List.cons_append, Nat.zero_add, Nat.add_zero, Bool.not_true, Bool.not_false, if_true, if_false, ite_true, ite_false, decide_true, decide_false, Bool.and_true, Bool.true_and, Bool.and_false, Bool.false_and, Option.toList_none, Option.toList_some, Option.bind_some, List.replicate_zero, List.replicate_succ, List.map_nil, List.map_cons, Nat.reduceSub, Nat.reduceAdd, Nat.reduceMul, Nat.reduceLeDiff, Nat.reduceLT, Nat.reduceEqDiff, Int.reduceLE, Int.reduceLT, Int.reduceNeg, Int.reduceMul, Int.reduceAdd, Int.reduceSub, Int.reducePow, Int.reduceToNat, Int.reduceEq, true_and, and_true, eq_self, Int.zero_add, Bool.false_eq_true]))
    refine wp_draw6 (k := k + 1) D3 (by omega) (by decide) fun j1 d4 hj1 D4 => ?_
    (simp -failIfUnchanged -dsimp -implicitDefEqProofs only [↓PD.Wa, PD.Wb0, PD.Wb1, PD.Wb2, PD.Wb3, PD.Wb4, PD.Wb5, PD.lim, PD.smallI, List.getD_cons_zero, List.getD_cons_succ, List.flatten_cons, List.flatten_nil, PD.setMany, Int.toNat_natCast, List.getElem?_cons_zero, List.getElem?_cons_succ, List.set_cons_zero, List.set_cons_succ, List.length_cons, List.length_nil, List.length_map, List.length_append, List.length_reverse, List.length_replicate, List.length_range, List.nil_append, List.append_nil, List.cons_append, Nat.zero_add, Nat.add_zero, Bool.not_true, Bool.not_false, if_true, if_false, ite_true, ite_false, decide_true, decide_false, Bool.and_true, Bool.true_and, Bool.and_false, Bool.false_and, Option.toList_none, Option.toList_some, Option.bind_some, List.replicate_zero, List.replicate_succ, List.map_nil, List.map_cons, Nat.reduceSub, Nat.reduceAdd, Nat.reduceMul, Nat.reduceLeDiff, Nat.reduceLT, Nat.reduceEqDiff, Int.reduceLE, Int.reduceLT, Int.reduceNeg, Int.reduceMul, Int.reduceAdd, Int.reduceSub, Int.reducePow, Int.reduceToNat, Int.reduceEq, true_and, and_true, eq_self, Int.zero_add, Bool.false_eq_true]; repeat ((refine wp_must (by first | (simp only [Bool.and_eq_true, decide_eq_true_eq, List.length_map, List.length_append, List.length_replicate, List.length_cons, List.length_nil]; omega) | exact mulOk_r (by omega) (by omega) | exact mulOk_l (by omega) (by omega) | exact PD.divOk_of (by omega)) ?_); simp -failIfUnchanged -dsimp -implicitDefEqProofs only [↓PD.Wa, PD.Wb0, PD.Wb1, PD.Wb2, PD.Wb3, PD.Wb4, PD.Wb5, PD.lim, PD.smallI, List.getD_cons_zero, List.getD_cons_succ, List.flatten_cons, List.flatten_nil, PD.setMany, Int.toNat_natCast, List.getElem?_cons_zero, List.getElem?_cons_succ, List.set_cons_zero, List.set_cons_succ, List.length_cons, List.length_nil, List.length_map, List.length_append, List.length_reverse, List.length_replicate, List.length_range, List.nil_append, List.append_nil, List.cons_append, Nat.zero_add, Nat.add_zero, Bool.not_true, Bool.not_false, if_true, if_false, ite_true, ite_false, decide_true, decide_false, Bool.and_true, Bool.true_and, Bool.and_false, Bool.false_and, Option.toList_none, Option.toList_some, Option.bind_some, List.replicate_zero, List.replicate_succ, List.map_nil, List.map_cons, Nat.reduceSub, Nat.reduceAdd, Nat.reduceMul, Nat.reduceLeDiff, Nat.reduceLT, Nat.reduceEqDiff, Int.reduceLE, Int.reduceLT, Int.reduceNeg, Int.reduceMul, Int.reduceAdd, Int.reduceSub, Int.reducePow, Int.reduceToNat, Int.reduceEq, true_and, and_true, eq_self, Int.zero_add, Bool.false_eq_true]))
    refine wp_forR [3, 5] [some (.int hh), _] (fun j vs s => ∃ z hh ns, vs = [some (.int hh), z] ∧ s = dkS d4 [.lst (ns.map D.int)] ∧ ns.length ≤ 4 * i + j ∧ hh.natAbs ≤ ns.length * 10000000 ∧ Bd 40 ns) rfl ⟨_, hh, ns, rfl, rfl, by omega, by omega, hb⟩ ?_ ?_
    · rintro j vs s hj ⟨z, hh, ns, rfl, rfl, hl, hb1, hb⟩
      have hj4 : j < 4 := by omega
      have hc7 : i < 7 ∨ i ≥ 7 := by omega
      have hi8 : i < 8 := by omega
      (simp -failIfUnchanged -dsimp -implicitDefEqProofs only [↓PD.Wa, PD.Wb0, PD.Wb1, PD.Wb2, PD.Wb3, PD.Wb4, PD.Wb5, PD.lim, PD.smallI, List.getD_cons_zero, List.getD_cons_succ, List.flatten_cons, List.flatten_nil, PD.setMany, Int.toNat_natCast, List.getElem?_cons_zero, List.getElem?_cons_succ, List.set_cons_zero, List.set_cons_succ, List.length_cons, List.length_nil, List.length_map, List.length_append, List.length_reverse, List.length_replicate, List.length_range, List.nil_append, List.append_nil, List.cons_append, Nat.zero_add, Nat.add_zero, Bool.not_true, Bool.not_false, if_true, if_false, ite_true, ite_false, decide_true, decide_false, Bool.and_true, Bool.true_and, Bool.and_false, Bool.false_and, Option.toList_none, Option.toList_some, Option.bind_some, List.replicate_zero, List.replicate_succ, List.map_nil, List.map_cons, Nat.reduceSub, Nat.reduceAdd, Nat.reduceMul, Nat.reduceLeDiff, Nat.reduceLT, Nat.reduceEqDiff, Int.reduceLE, Int.reduceLT, Int.reduceNeg, Int.reduceMul, Int.reduceAdd, Int.reduceSub, Int.reducePow, Int.reduceToNat, Int.reduceEq, true_and, and_true, eq_self, Int.zero_add, Bool.false_eq_true, map_one]; repeat ((refine wp_must (by first | (simp only [Bool.and_eq_true, decide_eq_true_eq, List.length_map, List.length_append, List.length_replicate, List.length_cons, List.length_nil]; omega) | exact mulOk_r (by omega) (by omega) | exact mulOk_l (by omega) (by omega) | exact PD.divOk_of (by omega)) ?_); simp -failIfUnchanged -dsimp -implicitDefEqProofs only [↓PD.Wa, PD.Wb0, PD.Wb1, PD.Wb2, PD.Wb3, PD.Wb4, PD.Wb5, PD.lim, PD.smallI, List.getD_cons_zero, List.getD_cons_succ, List.flatten_cons, List.flatten_nil, PD.setMany, Int.toNat_natCast, List.getElem?_cons_zero, List.getElem?_cons_succ, List.set_cons_zero, List.set_cons_succ, List.length_cons, List.length_nil, List.length_map, List.length_append, List.length_reverse, List.length_replicate, List.length_range, List.nil_append, List.append_nil, List.cons_append, Nat.zero_add, Nat.add_zero, Bool.not_true, Bool.not_false, if_true, if_false, ite_true, ite_false, decide_true, decide_false, Bool.and_true, Bool.true_and, Bool.and_false, Bool.false_and, Option.toList_none, Option.toList_some, Option.bind_some, List.replicate_zero, List.replicate_succ, List.map_nil, List.map_cons, Nat.reduceSub, Nat.reduceAdd, Nat.reduceMul, Nat.reduceLeDiff, Nat.reduceLT, Nat.reduceEqDiff, Int.reduceLE, Int.reduceLT, Int.reduceNeg, Int.reduceMul, Int.reduceAdd, Int.reduceSub, Int.reducePow, Int.reduceToNat, Int.reduceEq, true_and, and_true, eq_self, Int.zero_add, Bool.false_eq_true, map_one]))
      have hnew : (hh + step).natAbs ≤ (ns ++ [hh + step]).length * 10000000 := by
        rw [List.length_append, List.length_singleton]
        have := Int.natAbs_add_le hh step
        omega
      refine ⟨[_, _], rfl, _, _, ns ++ [hh + step], rfl, rfl, by rw [List.length_append, List.length_singleton]; omega, hnew, bd_app hb (bd_one ?_)⟩
      rw [List.length_append, List.length_singleton] at hnew
      omega
    · rintro vs s ⟨z, hh, ns, rfl, rfl, hl, hb1, hb⟩
      (simp -failIfUnchanged -dsimp -implicitDefEqProofs only [↓PD.Wa, PD.Wb0, PD.Wb1, PD.Wb2, PD.Wb3, PD.Wb4, PD.Wb5, PD.lim, PD.smallI, List.getD_cons_zero, List.getD_cons_succ, List.flatten_cons, List.flatten_nil, PD.setMany, Int.toNat_natCast, List.getElem?_cons_zero, List.getElem?_cons_succ, List.set_cons_zero, List.set_cons_succ, List.length_cons, List.length_nil, List.length_map, List.length_append, List.length_reverse, List.length_replicate, List.length_range, List.nil_append, List.append_nil, List.cons_append, Nat.zero_add, Nat.add_zero, Bool.not_true, Bool.not_false, if_true, if_false, ite_true, ite_false, decide_true, decide_false, Bool.and_true, Bool.true_and, Bool.and_false, Bool.false_and, Option.toList_none, Option.toList_some, Option.bind_some, List.replicate_zero, List.replicate_succ, List.map_nil, List.map_cons, Nat.reduceSub, Nat.reduceAdd, Nat.reduceMul, Nat.reduceLeDiff, Nat.reduceLT, Nat.reduceEqDiff, Int.reduceLE, Int.reduceLT, Int.reduceNeg, Int.reduceMul, Int.reduceAdd, Int.reduceSub, Int.reducePow, Int.reduceToNat, Int.reduceEq, true_and, and_true, eq_self, Int.zero_add, Bool.false_eq_true]; repeat ((refine wp_must (by first | (simp only [Bool.and_eq_true, decide_eq_true_eq, List.length_map, List.length_append, List.length_replicate, List.length_cons, List.length_nil]; omega) | exact mulOk_r (by omega) (by omega) | exact mulOk_l (by omega) (by omega) | exact PD.divOk_of (by omega)) ?_); simp -failIfUnchanged -dsimp -implicitDefEqProofs only [↓PD.Wa, PD.Wb0, PD.Wb1, PD.Wb2, PD.Wb3, PD.Wb4, PD.Wb5, PD.lim, PD.smallI, List.getD_cons_zero, List.getD_cons_succ, List.flatten_cons, List.flatten_nil, PD.setMany, Int.toNat_natCast, List.getElem?_cons_zero, List.getElem?_cons_succ, List.set_cons_zero, List.set_cons_succ, List.length_cons, List.length_nil, List.length_map, List.length_append, List.length_reverse, List.length_replicate, List.length_range, List.nil_append, List.append_nil, List.cons_append, Nat.zero_add, Nat.add_zero, Bool.not_true, Bool.not_false, if_true, if_false, ite_true, ite_false, decide_true, decide_false, Bool.and_true, Bool.true_and, Bool.and_false, Bool.false_and, Option.toList_none, Option.toList_some, Option.bind_some, List.replicate_zero, List.replicate_succ, List.map_nil, List.map_cons, Nat.reduceSub, Nat.reduceAdd, Nat.reduceMul, Nat.reduceLeDiff, Nat.reduceLT, Nat.reduceEqDiff, Int.reduceLE, Int.reduceLT, Int.reduceNeg, Int.reduceMul, Int.reduceAdd, Int.reduceSub, Int.reducePow, Int.reduceToNat, Int.reduceEq, true_and, and_true, eq_self, Int.zero_add, Bool.false_eq_true]))
      exact ⟨[_, _, _, _], rfl, _, _, _, hh, ns, d4, rfl, rfl, by omega, hb1, hb, D4.mono (by push_cast; omega)⟩
  · rintro vs s ⟨x, y, z, hh, ns, d2, rfl, rfl, hl, hb1, hb, D2⟩
    (simp -failIfUnchanged -dsimp -implicitDefEqProofs only [↓PD.Wa, PD.Wb0, PD.Wb1, PD.Wb2, PD.Wb3, PD.Wb4, PD.Wb5, PD.lim, PD.smallI, List.getD_cons_zero, List.getD_cons_succ, List.flatten_cons, List.flatten_nil, PD.setMany, Int.toNat_natCast, List.getElem?_cons_zero, List.getElem?_cons_succ, List.set_cons_zero, List.set_cons_succ, List.length_cons, List.length_nil, List.length_map, List.length_append, List.length_reverse, List.length_replicate, List.length_range, List.nil_append, List.append_nil, List.cons_append, Nat.zero_add, Nat.add_zero, Bool.not_true, Bool.not_false, if_true, if_false, ite_true, ite_false, decide_true, decide_false, Bool.and_true, Bool.true_and, Bool.and_false, Bool.false_and, Option.toList_none, Option.toList_some, Option.bind_some, List.replicate_zero, List.replicate_succ, List.map_nil, List.map_cons, Nat.reduceSub, Nat.reduceAdd, Nat.reduceMul, Nat.reduceLeDiff, Nat.reduceLT, Nat.reduceEqDiff, Int.reduceLE, Int.reduceLT, Int.reduceNeg, Int.reduceMul, Int.reduceAdd, Int.reduceSub, Int.reducePow, Int.reduceToNat, Int.reduceEq, true_and, and_true, eq_self, Int.zero_add, Bool.false_eq_true]; repeat ((refine wp_must (by first | (simp only [Bool.and_eq_true, decide_eq_true_eq, List.length_map, List.length_append, List.length_replicate, List.length_cons, List.length_nil]; omega) | exact mulOk_r (by omega) (by omega) | exact mulOk_l (by omega) (by omega) | exact PD.divOk_of (by omega)) ?_); simp -failIfUnchanged -dsimp -implicitDefEqProofs only [↓PD.Wa, PD.Wb0, PD.Wb1, PD.Wb2, PD.Wb3, PD.Wb4, PD.Wb5, PD.lim, PD.smallI, List.getD_cons_zero, List.getD_cons_succ, List.flatten_cons, List.flatten_nil, PD.setMany, Int.toNat_natCast, List.getElem?_cons_zero, List.getElem?_cons_succ, List.set_cons_zero, List.set_cons_succ, List.length_cons, List.length_nil, List.length_map, List.length_append, List.length_reverse, List.length_replicate, List.length_range, List.nil_append, List.append_nil, List.cons_append, Nat.zero_add, Nat.add_zero, Bool.not_true, Bool.not_false, if_true, if_false, ite_true, ite_false, decide_true, decide_false, Bool.and_true, Bool.true_and, Bool.and_false, Bool.false_and, Option.toList_none, Option.toList_some, Option.bind_some, List.replicate_zero, List.replicate_succ, List.map_nil, List.map_cons, Nat.reduceSub, Nat.reduceAdd, Nat.reduceMul, Nat.reduceLeDiff, Nat.reduceLT, Nat.reduceEqDiff, Int.reduceLE, Int.reduceLT, Int.reduceNeg, Int.reduceMul, Int.reduceAdd, Int.reduceSub, Int.reducePow, Int.reduceToNat, Int.reduceEq, true_and, and_true, eq_self, Int.zero_add, Bool.false_eq_true]))
    rw [end_dk1 (by rw [bare_tup]; exact bare_ints _)]
    exact h ns d2 (by omega) hb (D2.mono (by omega))
theorem repr_own {d m : Nat} {xs : List D} {ps : List PyData} {st r : Store} (h : Dat d m (.lst xs) (.list ps)) (hd : d ≤ 60 ∧ m ≤ 1000000) : biM .repr [.loc st.length] (st ++ .lst xs :: r) = .ok (.d (.str (PyData.list ps).shown)) (st ++ .lst xs :: r) := by
  have hp : pyL xs = some ps := by
    have := h.py
    rw [D.py] at this
    cases e : pyL xs with
    | none => rw [e] at this; cases this
    | some qs => rw [e] at this; cases this; rfl
  have hg : (st ++ Cell.lst xs :: r)[st.length]? = some (.lst xs) := by simp
  have hs : pyS (st ++ Cell.lst xs :: r) (.loc st.length) = some (.list ps) := by
    show (match (st ++ Cell.lst xs :: r)[st.length]? with
      | some (.lst xs) => (pyL xs).map PyData.list
      | _ => none) = _
    rw [hg]
    show (pyL xs).map PyData.list = _
    rw [hp]; rfl
  show (match pyS (st ++ Cell.lst xs :: r) (.loc st.length) with
    | some p => if (p.showable && decide (p.shown.length ≤ 1000000) && SeqAt.shaped p) = true then Out.ok (R.d (.str p.shown)) (st ++ Cell.lst xs :: r) else Out.bad
    | none => Out.bad) = _
  rw [hs]
  show (if _ then _ else _) = _
  rw [if_pos]
  rw [h.sh.ok, h.sh.shaped hd.1, decide_eq_true (Nat.le_trans h.sh.len hd.2)]; rfl
theorem wp_right {k : Nat} {a : List Int} {far : Int} {st : Store} {Q : D → Store → Prop} (hl : a.length ≤ 60) (ba : Bd 40 a) (hf : far ≠ 0) (hf2 : far.natAbs < 2 ^ 10) (hq : Q (.bl true) st) : Wp (callF fns (k + 3) 12 [.tup (a.map D.int), .int far] st) Q := by
  have ld := difR_le a
  have R1 := dat_tI ba ⟨by decide, by decide⟩ 60 hl
  have E1 := repr_dat R1 ⟨by decide, by decide⟩
  have Rd := dat_tI (bd_difR ba) ⟨by decide, by decide⟩ 61 (by omega)
  have R2 : Dat 2 10000 (.lst [.tup ((difR a).map D.int), .tup ((difR a).map D.int)]) _ := (dat_lst (dats_two Rd Rd) 2 (by simp)).mono (by decide) (by decide)
  have E2 := repr_dat R2 ⟨by decide, by decide⟩
  have ht := trn_le (sgs (difR a))
  have hs := sgs_len (difR a)
  have hbt : (trn (sgs (difR a)) : Int).natAbs < 2 ^ 40 := by omega
  have R3 : Dat 1 100000 (.lst (List.replicate 5 (.int (trn (sgs (difR a)))))) _ := (dat_lst (dats_rep (dat_int hbt ⟨by decide, by decide⟩) 5) 5 (by simp)).mono (by decide) (by decide)
  have E3 := repr_dat R3 ⟨by decide, by decide⟩
  have E4 := eq_dat R3.sh
  simp only [List.replicate] at E3 E4
  have dl : ((difR a).length : Int) = (a.length : Int) + (if (!decide (a = [])) = true then 1 else 0) := by
    rw [difR_len]
    by_cases h : a = []
    · subst h; rfl
    · rw [if_neg h]; simp [h]
  refine wp_call (fn := f12) rfl rfl ?_
  show Wp (ex _ b12 [some (.tup (a.map D.int)), some (.int far), none, none, none, none, none] st) (CallQ false _ Q)
  (simp -failIfUnchanged -dsimp -implicitDefEqProofs only [↓PD.Wa, PD.Wb0, PD.Wb1, PD.Wb2, PD.Wb3, PD.Wb4, PD.Wb5, PD.lim, PD.smallI, List.getD_cons_zero, List.getD_cons_succ, List.flatten_cons, List.flatten_nil, PD.setMany, Int.toNat_natCast, List.getElem?_cons_zero, List.getElem?_cons_succ, List.set_cons_zero, List.set_cons_succ, List.length_cons, List.length_nil, List.length_map, List.length_append, List.length_reverse, List.length_replicate, List.length_range, List.nil_append, List.append_nil, List.cons_append, Nat.zero_add, Nat.add_zero, Bool.not_true, Bool.not_false, if_true, if_false, ite_true, ite_false, decide_true, decide_false, Bool.and_true, Bool.true_and, Bool.and_false, Bool.false_and, Option.toList_none, Option.toList_some, Option.bind_some, List.replicate_zero, List.replicate_succ, List.map_nil, List.map_cons, Nat.reduceSub, Nat.reduceAdd, Nat.reduceMul, Nat.reduceLeDiff, Nat.reduceLT, Nat.reduceEqDiff, Int.reduceLE, Int.reduceLT, Int.reduceNeg, Int.reduceMul, Int.reduceAdd, Int.reduceSub, Int.reducePow, Int.reduceToNat, Int.reduceEq, true_and, and_true, eq_self, Int.zero_add, Bool.false_eq_true, b12, x12_0, x12_1, x12_2, y12_3, x12_4, y12_5, x12_6, x12_7, y12_8, k12_9, k12_10, y12_11, x12_12, y12_13, x12_14, y12_15, x12_16, y12_17, k12_18, E1]; repeat ((refine wp_must (by first | (simp only [Bool.and_eq_true, decide_eq_true_eq, List.length_map, List.length_append, List.length_replicate, List.length_cons, List.length_nil]; omega) | exact mulOk_r (by omega) (by omega) | exact mulOk_l (by omega) (by omega) | exact PD.divOk_of (by omega)) ?_); simp -failIfUnchanged -dsimp -implicitDefEqProofs only [↓PD.Wa, PD.Wb0, PD.Wb1, PD.Wb2, PD.Wb3, PD.Wb4, PD.Wb5, PD.lim, PD.smallI, List.getD_cons_zero, List.getD_cons_succ, List.flatten_cons, List.flatten_nil, PD.setMany, Int.toNat_natCast, List.getElem?_cons_zero, List.getElem?_cons_succ, List.set_cons_zero, List.set_cons_succ, List.length_cons, List.length_nil, List.length_map, List.length_append, List.length_reverse, List.length_replicate, List.length_range, List.nil_append, List.append_nil, List.cons_append, Nat.zero_add, Nat.add_zero, Bool.not_true, Bool.not_false, if_true, if_false, ite_true, ite_false, decide_true, decide_false, Bool.and_true, Bool.true_and, Bool.and_false, Bool.false_and, Option.toList_none, Option.toList_some, Option.bind_some, List.replicate_zero, List.replicate_succ, List.map_nil, List.map_cons, Nat.reduceSub, Nat.reduceAdd, Nat.reduceMul, Nat.reduceLeDiff, Nat.reduceLT, Nat.reduceEqDiff, Int.reduceLE, Int.reduceLT, Int.reduceNeg, Int.reduceMul, Int.reduceAdd, Int.reduceSub, Int.reducePow, Int.reduceToNat, Int.reduceEq, true_and, and_true, eq_self, Int.zero_add, Bool.false_eq_true, b12, x12_0, x12_1, x12_2, y12_3, x12_4, y12_5, x12_6, x12_7, y12_8, k12_9, k12_10, y12_11, x12_12, y12_13, x12_14, y12_15, x12_16, y12_17, k12_18, E1]))
  refine wp_less (k := k + 1) (by omega) ?_
  (simp -failIfUnchanged -dsimp -implicitDefEqProofs only [↓PD.Wa, PD.Wb0, PD.Wb1, PD.Wb2, PD.Wb3, PD.Wb4, PD.Wb5, PD.lim, PD.smallI, List.getD_cons_zero, List.getD_cons_succ, List.flatten_cons, List.flatten_nil, PD.setMany, Int.toNat_natCast, List.getElem?_cons_zero, List.getElem?_cons_succ, List.set_cons_zero, List.set_cons_succ, List.length_cons, List.length_nil, List.length_map, List.length_append, List.length_reverse, List.length_replicate, List.length_range, List.nil_append, List.append_nil, List.cons_append, Nat.zero_add, Nat.add_zero, Bool.not_true, Bool.not_false, if_true, if_false, ite_true, ite_false, decide_true, decide_false, Bool.and_true, Bool.true_and, Bool.and_false, Bool.false_and, Option.toList_none, Option.toList_some, Option.bind_some, List.replicate_zero, List.replicate_succ, List.map_nil, List.map_cons, Nat.reduceSub, Nat.reduceAdd, Nat.reduceMul, Nat.reduceLeDiff, Nat.reduceLT, Nat.reduceEqDiff, Int.reduceLE, Int.reduceLT, Int.reduceNeg, Int.reduceMul, Int.reduceAdd, Int.reduceSub, Int.reducePow, Int.reduceToNat, Int.reduceEq, true_and, and_true, eq_self, Int.zero_add, Bool.false_eq_true]; repeat ((refine wp_must (by first | (simp only [Bool.and_eq_true, decide_eq_true_eq, List.length_map, List.length_append, List.length_replicate, List.length_cons, List.length_nil]; omega) | exact mulOk_r (by omega) (by omega) | exact mulOk_l (by omega) (by omega) | exact PD.divOk_of (by omega)) ?_); simp -failIfUnchanged -dsimp -implicitDefEqProofs only [↓PD.Wa, PD.Wb0, PD.Wb1, PD.Wb2, PD.Wb3, PD.Wb4, PD.Wb5, PD.lim, PD.smallI, List.getD_cons_zero, List.getD_cons_succ, List.flatten_cons, List.flatten_nil, PD.setMany, Int.toNat_natCast, List.getElem?_cons_zero, List.getElem?_cons_succ, List.set_cons_zero, List.set_cons_succ, List.length_cons, List.length_nil, List.length_map, List.length_append, List.length_reverse, List.length_replicate, List.length_range, List.nil_append, List.append_nil, List.cons_append, Nat.zero_add, Nat.add_zero, Bool.not_true, Bool.not_false, if_true, if_false, ite_true, ite_false, decide_true, decide_false, Bool.and_true, Bool.true_and, Bool.and_false, Bool.false_and, Option.toList_none, Option.toList_some, Option.bind_some, List.replicate_zero, List.replicate_succ, List.map_nil, List.map_cons, Nat.reduceSub, Nat.reduceAdd, Nat.reduceMul, Nat.reduceLeDiff, Nat.reduceLT, Nat.reduceEqDiff, Int.reduceLE, Int.reduceLT, Int.reduceNeg, Int.reduceMul, Int.reduceAdd, Int.reduceSub, Int.reducePow, Int.reduceToNat, Int.reduceEq, true_and, and_true, eq_self, Int.zero_add, Bool.false_eq_true]))
  refine wp_lturns (k := k + 1) (by omega) ?_
  (simp -failIfUnchanged -dsimp -implicitDefEqProofs only [↓PD.Wa, PD.Wb0, PD.Wb1, PD.Wb2, PD.Wb3, PD.Wb4, PD.Wb5, PD.lim, PD.smallI, List.getD_cons_zero, List.getD_cons_succ, List.flatten_cons, List.flatten_nil, PD.setMany, Int.toNat_natCast, List.getElem?_cons_zero, List.getElem?_cons_succ, List.set_cons_zero, List.set_cons_succ, List.length_cons, List.length_nil, List.length_map, List.length_append, List.length_reverse, List.length_replicate, List.length_range, List.nil_append, List.append_nil, List.cons_append, Nat.zero_add, Nat.add_zero, Bool.not_true, Bool.not_false, if_true, if_false, ite_true, ite_false, decide_true, decide_false, Bool.and_true, Bool.true_and, Bool.and_false, Bool.false_and, Option.toList_none, Option.toList_some, Option.bind_some, List.replicate_zero, List.replicate_succ, List.map_nil, List.map_cons, Nat.reduceSub, Nat.reduceAdd, Nat.reduceMul, Nat.reduceLeDiff, Nat.reduceLT, Nat.reduceEqDiff, Int.reduceLE, Int.reduceLT, Int.reduceNeg, Int.reduceMul, Int.reduceAdd, Int.reduceSub, Int.reducePow, Int.reduceToNat, Int.reduceEq, true_and, and_true, eq_self, Int.zero_add, Bool.false_eq_true]; repeat ((refine wp_must (by first | (simp only [Bool.and_eq_true, decide_eq_true_eq, List.length_map, List.length_append, List.length_replicate, List.length_cons, List.length_nil]; omega) | exact mulOk_r (by omega) (by omega) | exact mulOk_l (by omega) (by omega) | exact PD.divOk_of (by omega)) ?_); simp -failIfUnchanged -dsimp -implicitDefEqProofs only [↓PD.Wa, PD.Wb0, PD.Wb1, PD.Wb2, PD.Wb3, PD.Wb4, PD.Wb5, PD.lim, PD.smallI, List.getD_cons_zero, List.getD_cons_succ, List.flatten_cons, List.flatten_nil, PD.setMany, Int.toNat_natCast, List.getElem?_cons_zero, List.getElem?_cons_succ, List.set_cons_zero, List.set_cons_succ, List.length_cons, List.length_nil, List.length_map, List.length_append, List.length_reverse, List.length_replicate, List.length_range, List.nil_append, List.append_nil, List.cons_append, Nat.zero_add, Nat.add_zero, Bool.not_true, Bool.not_false, if_true, if_false, ite_true, ite_false, decide_true, decide_false, Bool.and_true, Bool.true_and, Bool.and_false, Bool.false_and, Option.toList_none, Option.toList_some, Option.bind_some, List.replicate_zero, List.replicate_succ, List.map_nil, List.map_cons, Nat.reduceSub, Nat.reduceAdd, Nat.reduceMul, Nat.reduceLeDiff, Nat.reduceLT, Nat.reduceEqDiff, Int.reduceLE, Int.reduceLT, Int.reduceNeg, Int.reduceMul, Int.reduceAdd, Int.reduceSub, Int.reducePow, Int.reduceToNat, Int.reduceEq, true_and, and_true, eq_self, Int.zero_add, Bool.false_eq_true]))
  refine wp_dif (k := k + 1) (by omega) ?_
  (simp -failIfUnchanged -dsimp -implicitDefEqProofs only [↓PD.Wa, PD.Wb0, PD.Wb1, PD.Wb2, PD.Wb3, PD.Wb4, PD.Wb5, PD.lim, PD.smallI, List.getD_cons_zero, List.getD_cons_succ, List.flatten_cons, List.flatten_nil, PD.setMany, Int.toNat_natCast, List.getElem?_cons_zero, List.getElem?_cons_succ, List.set_cons_zero, List.set_cons_succ, List.length_cons, List.length_nil, List.length_map, List.length_append, List.length_reverse, List.length_replicate, List.length_range, List.nil_append, List.append_nil, List.cons_append, Nat.zero_add, Nat.add_zero, Bool.not_true, Bool.not_false, if_true, if_false, ite_true, ite_false, decide_true, decide_false, Bool.and_true, Bool.true_and, Bool.and_false, Bool.false_and, Option.toList_none, Option.toList_some, Option.bind_some, List.replicate_zero, List.replicate_succ, List.map_nil, List.map_cons, Nat.reduceSub, Nat.reduceAdd, Nat.reduceMul, Nat.reduceLeDiff, Nat.reduceLT, Nat.reduceEqDiff, Int.reduceLE, Int.reduceLT, Int.reduceNeg, Int.reduceMul, Int.reduceAdd, Int.reduceSub, Int.reducePow, Int.reduceToNat, Int.reduceEq, true_and, and_true, eq_self, Int.zero_add, Bool.false_eq_true]; repeat ((refine wp_must (by first | (simp only [Bool.and_eq_true, decide_eq_true_eq, List.length_map, List.length_append, List.length_replicate, List.length_cons, List.length_nil]; omega) | exact mulOk_r (by omega) (by omega) | exact mulOk_l (by omega) (by omega) | exact PD.divOk_of (by omega)) ?_); simp -failIfUnchanged -dsimp -implicitDefEqProofs only [↓PD.Wa, PD.Wb0, PD.Wb1, PD.Wb2, PD.Wb3, PD.Wb4, PD.Wb5, PD.lim, PD.smallI, List.getD_cons_zero, List.getD_cons_succ, List.flatten_cons, List.flatten_nil, PD.setMany, Int.toNat_natCast, List.getElem?_cons_zero, List.getElem?_cons_succ, List.set_cons_zero, List.set_cons_succ, List.length_cons, List.length_nil, List.length_map, List.length_append, List.length_reverse, List.length_replicate, List.length_range, List.nil_append, List.append_nil, List.cons_append, Nat.zero_add, Nat.add_zero, Bool.not_true, Bool.not_false, if_true, if_false, ite_true, ite_false, decide_true, decide_false, Bool.and_true, Bool.true_and, Bool.and_false, Bool.false_and, Option.toList_none, Option.toList_some, Option.bind_some, List.replicate_zero, List.replicate_succ, List.map_nil, List.map_cons, Nat.reduceSub, Nat.reduceAdd, Nat.reduceMul, Nat.reduceLeDiff, Nat.reduceLT, Nat.reduceEqDiff, Int.reduceLE, Int.reduceLT, Int.reduceNeg, Int.reduceMul, Int.reduceAdd, Int.reduceSub, Int.reducePow, Int.reduceToNat, Int.reduceEq, true_and, and_true, eq_self, Int.zero_add, Bool.false_eq_true]))
  refine wp_dif (k := k + 1) (by omega) ?_
  have L2 := fun r : Store => repr_own (st := st) (r := r) R2 ⟨by decide, by decide⟩
  have L3 := repr_own (st := st ++ [.lst [.tup ((difR a).map D.int), .tup ((difR a).map D.int)]]) (r := []) R3 ⟨by decide, by decide⟩
  simp only [List.replicate, List.length_append, List.length_singleton, List.append_assoc, List.cons_append, List.nil_append] at L3
  have E5 := ne_dat R2.sh
  (simp -failIfUnchanged -dsimp -implicitDefEqProofs only [↓PD.Wa, PD.Wb0, PD.Wb1, PD.Wb2, PD.Wb3, PD.Wb4, PD.Wb5, PD.lim, PD.smallI, List.getD_cons_zero, List.getD_cons_succ, List.flatten_cons, List.flatten_nil, PD.setMany, Int.toNat_natCast, List.getElem?_cons_zero, List.getElem?_cons_succ, List.set_cons_zero, List.set_cons_succ, List.length_cons, List.length_nil, List.length_map, List.length_append, List.length_reverse, List.length_replicate, List.length_range, List.nil_append, List.append_nil, List.cons_append, Nat.zero_add, Nat.add_zero, Bool.not_true, Bool.not_false, if_true, if_false, ite_true, ite_false, decide_true, decide_false, Bool.and_true, Bool.true_and, Bool.and_false, Bool.false_and, Option.toList_none, Option.toList_some, Option.bind_some, List.replicate_zero, List.replicate_succ, List.map_nil, List.map_cons, Nat.reduceSub, Nat.reduceAdd, Nat.reduceMul, Nat.reduceLeDiff, Nat.reduceLT, Nat.reduceEqDiff, Int.reduceLE, Int.reduceLT, Int.reduceNeg, Int.reduceMul, Int.reduceAdd, Int.reduceSub, Int.reducePow, Int.reduceToNat, Int.reduceEq, true_and, and_true, eq_self, Int.zero_add, Bool.false_eq_true, L2, E2, E5, difR_sum, dl]; repeat ((refine wp_must (by first | (simp only [Bool.and_eq_true, decide_eq_true_eq, List.length_map, List.length_append, List.length_replicate, List.length_cons, List.length_nil]; omega) | exact mulOk_r (by omega) (by omega) | exact mulOk_l (by omega) (by omega) | exact PD.divOk_of (by omega)) ?_); simp -failIfUnchanged -dsimp -implicitDefEqProofs only [↓PD.Wa, PD.Wb0, PD.Wb1, PD.Wb2, PD.Wb3, PD.Wb4, PD.Wb5, PD.lim, PD.smallI, List.getD_cons_zero, List.getD_cons_succ, List.flatten_cons, List.flatten_nil, PD.setMany, Int.toNat_natCast, List.getElem?_cons_zero, List.getElem?_cons_succ, List.set_cons_zero, List.set_cons_succ, List.length_cons, List.length_nil, List.length_map, List.length_append, List.length_reverse, List.length_replicate, List.length_range, List.nil_append, List.append_nil, List.cons_append, Nat.zero_add, Nat.add_zero, Bool.not_true, Bool.not_false, if_true, if_false, ite_true, ite_false, decide_true, decide_false, Bool.and_true, Bool.true_and, Bool.and_false, Bool.false_and, Option.toList_none, Option.toList_some, Option.bind_some, List.replicate_zero, List.replicate_succ, List.map_nil, List.map_cons, Nat.reduceSub, Nat.reduceAdd, Nat.reduceMul, Nat.reduceLeDiff, Nat.reduceLT, Nat.reduceEqDiff, Int.reduceLE, Int.reduceLT, Int.reduceNeg, Int.reduceMul, Int.reduceAdd, Int.reduceSub, Int.reducePow, Int.reduceToNat, Int.reduceEq, true_and, and_true, eq_self, Int.zero_add, Bool.false_eq_true, L2, E2, E5, difR_sum, dl]))
  refine wp_peaks (k := k) (by omega) ?_
  (simp -failIfUnchanged -dsimp -implicitDefEqProofs only [↓PD.Wa, PD.Wb0, PD.Wb1, PD.Wb2, PD.Wb3, PD.Wb4, PD.Wb5, PD.lim, PD.smallI, List.getD_cons_zero, List.getD_cons_succ, List.flatten_cons, List.flatten_nil, PD.setMany, Int.toNat_natCast, List.getElem?_cons_zero, List.getElem?_cons_succ, List.set_cons_zero, List.set_cons_succ, List.length_cons, List.length_nil, List.length_map, List.length_append, List.length_reverse, List.length_replicate, List.length_range, List.nil_append, List.append_nil, List.cons_append, Nat.zero_add, Nat.add_zero, Bool.not_true, Bool.not_false, if_true, if_false, ite_true, ite_false, decide_true, decide_false, Bool.and_true, Bool.true_and, Bool.and_false, Bool.false_and, Option.toList_none, Option.toList_some, Option.bind_some, List.replicate_zero, List.replicate_succ, List.map_nil, List.map_cons, Nat.reduceSub, Nat.reduceAdd, Nat.reduceMul, Nat.reduceLeDiff, Nat.reduceLT, Nat.reduceEqDiff, Int.reduceLE, Int.reduceLT, Int.reduceNeg, Int.reduceMul, Int.reduceAdd, Int.reduceSub, Int.reducePow, Int.reduceToNat, Int.reduceEq, true_and, and_true, eq_self, Int.zero_add, Bool.false_eq_true]; repeat ((refine wp_must (by first | (simp only [Bool.and_eq_true, decide_eq_true_eq, List.length_map, List.length_append, List.length_replicate, List.length_cons, List.length_nil]; omega) | exact mulOk_r (by omega) (by omega) | exact mulOk_l (by omega) (by omega) | exact PD.divOk_of (by omega)) ?_); simp -failIfUnchanged -dsimp -implicitDefEqProofs only [↓PD.Wa, PD.Wb0, PD.Wb1, PD.Wb2, PD.Wb3, PD.Wb4, PD.Wb5, PD.lim, PD.smallI, List.getD_cons_zero, List.getD_cons_succ, List.flatten_cons, List.flatten_nil, PD.setMany, Int.toNat_natCast, List.getElem?_cons_zero, List.getElem?_cons_succ, List.set_cons_zero, List.set_cons_succ, List.length_cons, List.length_nil, List.length_map, List.length_append, List.length_reverse, List.length_replicate, List.length_range, List.nil_append, List.append_nil, List.cons_append, Nat.zero_add, Nat.add_zero, Bool.not_true, Bool.not_false, if_true, if_false, ite_true, ite_false, decide_true, decide_false, Bool.and_true, Bool.true_and, Bool.and_false, Bool.false_and, Option.toList_none, Option.toList_some, Option.bind_some, List.replicate_zero, List.replicate_succ, List.map_nil, List.map_cons, Nat.reduceSub, Nat.reduceAdd, Nat.reduceMul, Nat.reduceLeDiff, Nat.reduceLT, Nat.reduceEqDiff, Int.reduceLE, Int.reduceLT, Int.reduceNeg, Int.reduceMul, Int.reduceAdd, Int.reduceSub, Int.reducePow, Int.reduceToNat, Int.reduceEq, true_and, and_true, eq_self, Int.zero_add, Bool.false_eq_true]))
  refine wp_peaks (k := k) (by omega) ?_
  (simp -failIfUnchanged -dsimp -implicitDefEqProofs only [↓PD.Wa, PD.Wb0, PD.Wb1, PD.Wb2, PD.Wb3, PD.Wb4, PD.Wb5, PD.lim, PD.smallI, List.getD_cons_zero, List.getD_cons_succ, List.flatten_cons, List.flatten_nil, PD.setMany, Int.toNat_natCast, List.getElem?_cons_zero, List.getElem?_cons_succ, List.set_cons_zero, List.set_cons_succ, List.length_cons, List.length_nil, List.length_map, List.length_append, List.length_reverse, List.length_replicate, List.length_range, List.nil_append, List.append_nil, List.cons_append, Nat.zero_add, Nat.add_zero, Bool.not_true, Bool.not_false, if_true, if_false, ite_true, ite_false, decide_true, decide_false, Bool.and_true, Bool.true_and, Bool.and_false, Bool.false_and, Option.toList_none, Option.toList_some, Option.bind_some, List.replicate_zero, List.replicate_succ, List.map_nil, List.map_cons, Nat.reduceSub, Nat.reduceAdd, Nat.reduceMul, Nat.reduceLeDiff, Nat.reduceLT, Nat.reduceEqDiff, Int.reduceLE, Int.reduceLT, Int.reduceNeg, Int.reduceMul, Int.reduceAdd, Int.reduceSub, Int.reducePow, Int.reduceToNat, Int.reduceEq, true_and, and_true, eq_self, Int.zero_add, Bool.false_eq_true]; repeat ((refine wp_must (by first | (simp only [Bool.and_eq_true, decide_eq_true_eq, List.length_map, List.length_append, List.length_replicate, List.length_cons, List.length_nil]; omega) | exact mulOk_r (by omega) (by omega) | exact mulOk_l (by omega) (by omega) | exact PD.divOk_of (by omega)) ?_); simp -failIfUnchanged -dsimp -implicitDefEqProofs only [↓PD.Wa, PD.Wb0, PD.Wb1, PD.Wb2, PD.Wb3, PD.Wb4, PD.Wb5, PD.lim, PD.smallI, List.getD_cons_zero, List.getD_cons_succ, List.flatten_cons, List.flatten_nil, PD.setMany, Int.toNat_natCast, List.getElem?_cons_zero, List.getElem?_cons_succ, List.set_cons_zero, List.set_cons_succ, List.length_cons, List.length_nil, List.length_map, List.length_append, List.length_reverse, List.length_replicate, List.length_range, List.nil_append, List.append_nil, List.cons_append, Nat.zero_add, Nat.add_zero, Bool.not_true, Bool.not_false, if_true, if_false, ite_true, ite_false, decide_true, decide_false, Bool.and_true, Bool.true_and, Bool.and_false, Bool.false_and, Option.toList_none, Option.toList_some, Option.bind_some, List.replicate_zero, List.replicate_succ, List.map_nil, List.map_cons, Nat.reduceSub, Nat.reduceAdd, Nat.reduceMul, Nat.reduceLeDiff, Nat.reduceLT, Nat.reduceEqDiff, Int.reduceLE, Int.reduceLT, Int.reduceNeg, Int.reduceMul, Int.reduceAdd, Int.reduceSub, Int.reducePow, Int.reduceToNat, Int.reduceEq, true_and, and_true, eq_self, Int.zero_add, Bool.false_eq_true]))
  rw [← List.map_reverse]
  refine wp_peaks (k := k) (by rw [List.length_reverse]; omega) ?_
  rw [pk_rev]
  (simp -failIfUnchanged -dsimp -implicitDefEqProofs only [↓PD.Wa, PD.Wb0, PD.Wb1, PD.Wb2, PD.Wb3, PD.Wb4, PD.Wb5, PD.lim, PD.smallI, List.getD_cons_zero, List.getD_cons_succ, List.flatten_cons, List.flatten_nil, PD.setMany, Int.toNat_natCast, List.getElem?_cons_zero, List.getElem?_cons_succ, List.set_cons_zero, List.set_cons_succ, List.length_cons, List.length_nil, List.length_map, List.length_append, List.length_reverse, List.length_replicate, List.length_range, List.nil_append, List.append_nil, List.cons_append, Nat.zero_add, Nat.add_zero, Bool.not_true, Bool.not_false, if_true, if_false, ite_true, ite_false, decide_true, decide_false, Bool.and_true, Bool.true_and, Bool.and_false, Bool.false_and, Option.toList_none, Option.toList_some, Option.bind_some, List.replicate_zero, List.replicate_succ, List.map_nil, List.map_cons, Nat.reduceSub, Nat.reduceAdd, Nat.reduceMul, Nat.reduceLeDiff, Nat.reduceLT, Nat.reduceEqDiff, Int.reduceLE, Int.reduceLT, Int.reduceNeg, Int.reduceMul, Int.reduceAdd, Int.reduceSub, Int.reducePow, Int.reduceToNat, Int.reduceEq, true_and, and_true, eq_self, Int.zero_add, Bool.false_eq_true]; repeat ((refine wp_must (by first | (simp only [Bool.and_eq_true, decide_eq_true_eq, List.length_map, List.length_append, List.length_replicate, List.length_cons, List.length_nil]; omega) | exact mulOk_r (by omega) (by omega) | exact mulOk_l (by omega) (by omega) | exact PD.divOk_of (by omega)) ?_); simp -failIfUnchanged -dsimp -implicitDefEqProofs only [↓PD.Wa, PD.Wb0, PD.Wb1, PD.Wb2, PD.Wb3, PD.Wb4, PD.Wb5, PD.lim, PD.smallI, List.getD_cons_zero, List.getD_cons_succ, List.flatten_cons, List.flatten_nil, PD.setMany, Int.toNat_natCast, List.getElem?_cons_zero, List.getElem?_cons_succ, List.set_cons_zero, List.set_cons_succ, List.length_cons, List.length_nil, List.length_map, List.length_append, List.length_reverse, List.length_replicate, List.length_range, List.nil_append, List.append_nil, List.cons_append, Nat.zero_add, Nat.add_zero, Bool.not_true, Bool.not_false, if_true, if_false, ite_true, ite_false, decide_true, decide_false, Bool.and_true, Bool.true_and, Bool.and_false, Bool.false_and, Option.toList_none, Option.toList_some, Option.bind_some, List.replicate_zero, List.replicate_succ, List.map_nil, List.map_cons, Nat.reduceSub, Nat.reduceAdd, Nat.reduceMul, Nat.reduceLeDiff, Nat.reduceLT, Nat.reduceEqDiff, Int.reduceLE, Int.reduceLT, Int.reduceNeg, Int.reduceMul, Int.reduceAdd, Int.reduceSub, Int.reducePow, Int.reduceToNat, Int.reduceEq, true_and, and_true, eq_self, Int.zero_add, Bool.false_eq_true]))
  refine wp_compm D.int (fun i => .int (far * i)) a rfl rfl (fun i hi => ?_) ?_
  · (simp -failIfUnchanged -dsimp -implicitDefEqProofs only [↓PD.Wa, PD.Wb0, PD.Wb1, PD.Wb2, PD.Wb3, PD.Wb4, PD.Wb5, PD.lim, PD.smallI, List.getD_cons_zero, List.getD_cons_succ, List.flatten_cons, List.flatten_nil, PD.setMany, Int.toNat_natCast, List.getElem?_cons_zero, List.getElem?_cons_succ, List.set_cons_zero, List.set_cons_succ, List.length_cons, List.length_nil, List.length_map, List.length_append, List.length_reverse, List.length_replicate, List.length_range, List.nil_append, List.append_nil, List.cons_append, Nat.zero_add, Nat.add_zero, Bool.not_true, Bool.not_false, if_true, if_false, ite_true, ite_false, decide_true, decide_false, Bool.and_true, Bool.true_and, Bool.and_false, Bool.false_and, Option.toList_none, Option.toList_some, Option.bind_some, List.replicate_zero, List.replicate_succ, List.map_nil, List.map_cons, Nat.reduceSub, Nat.reduceAdd, Nat.reduceMul, Nat.reduceLeDiff, Nat.reduceLT, Nat.reduceEqDiff, Int.reduceLE, Int.reduceLT, Int.reduceNeg, Int.reduceMul, Int.reduceAdd, Int.reduceSub, Int.reducePow, Int.reduceToNat, Int.reduceEq, true_and, and_true, eq_self, Int.zero_add, Bool.false_eq_true]; repeat ((refine wp_must (by first | (simp only [Bool.and_eq_true, decide_eq_true_eq, List.length_map, List.length_append, List.length_replicate, List.length_cons, List.length_nil]; omega) | exact mulOk_r (by omega) (by omega) | exact mulOk_l (by omega) (by omega) | exact PD.divOk_of (by omega)) ?_); simp -failIfUnchanged -dsimp -implicitDefEqProofs only [↓PD.Wa, PD.Wb0, PD.Wb1, PD.Wb2, PD.Wb3, PD.Wb4, PD.Wb5, PD.lim, PD.smallI, List.getD_cons_zero, List.getD_cons_succ, List.flatten_cons, List.flatten_nil, PD.setMany, Int.toNat_natCast, List.getElem?_cons_zero, List.getElem?_cons_succ, List.set_cons_zero, List.set_cons_succ, List.length_cons, List.length_nil, List.length_map, List.length_append, List.length_reverse, List.length_replicate, List.length_range, List.nil_append, List.append_nil, List.cons_append, Nat.zero_add, Nat.add_zero, Bool.not_true, Bool.not_false, if_true, if_false, ite_true, ite_false, decide_true, decide_false, Bool.and_true, Bool.true_and, Bool.and_false, Bool.false_and, Option.toList_none, Option.toList_some, Option.bind_some, List.replicate_zero, List.replicate_succ, List.map_nil, List.map_cons, Nat.reduceSub, Nat.reduceAdd, Nat.reduceMul, Nat.reduceLeDiff, Nat.reduceLT, Nat.reduceEqDiff, Int.reduceLE, Int.reduceLT, Int.reduceNeg, Int.reduceMul, Int.reduceAdd, Int.reduceSub, Int.reducePow, Int.reduceToNat, Int.reduceEq, true_and, and_true, eq_self, Int.zero_add, Bool.false_eq_true]))
  rw [map_int (fun i => far * i)]
  (simp -failIfUnchanged -dsimp -implicitDefEqProofs only [↓PD.Wa, PD.Wb0, PD.Wb1, PD.Wb2, PD.Wb3, PD.Wb4, PD.Wb5, PD.lim, PD.smallI, List.getD_cons_zero, List.getD_cons_succ, List.flatten_cons, List.flatten_nil, PD.setMany, Int.toNat_natCast, List.getElem?_cons_zero, List.getElem?_cons_succ, List.set_cons_zero, List.set_cons_succ, List.length_cons, List.length_nil, List.length_map, List.length_append, List.length_reverse, List.length_replicate, List.length_range, List.nil_append, List.append_nil, List.cons_append, Nat.zero_add, Nat.add_zero, Bool.not_true, Bool.not_false, if_true, if_false, ite_true, ite_false, decide_true, decide_false, Bool.and_true, Bool.true_and, Bool.and_false, Bool.false_and, Option.toList_none, Option.toList_some, Option.bind_some, List.replicate_zero, List.replicate_succ, List.map_nil, List.map_cons, Nat.reduceSub, Nat.reduceAdd, Nat.reduceMul, Nat.reduceLeDiff, Nat.reduceLT, Nat.reduceEqDiff, Int.reduceLE, Int.reduceLT, Int.reduceNeg, Int.reduceMul, Int.reduceAdd, Int.reduceSub, Int.reducePow, Int.reduceToNat, Int.reduceEq, true_and, and_true, eq_self, Int.zero_add, Bool.false_eq_true]; repeat ((refine wp_must (by first | (simp only [Bool.and_eq_true, decide_eq_true_eq, List.length_map, List.length_append, List.length_replicate, List.length_cons, List.length_nil]; omega) | exact mulOk_r (by omega) (by omega) | exact mulOk_l (by omega) (by omega) | exact PD.divOk_of (by omega)) ?_); simp -failIfUnchanged -dsimp -implicitDefEqProofs only [↓PD.Wa, PD.Wb0, PD.Wb1, PD.Wb2, PD.Wb3, PD.Wb4, PD.Wb5, PD.lim, PD.smallI, List.getD_cons_zero, List.getD_cons_succ, List.flatten_cons, List.flatten_nil, PD.setMany, Int.toNat_natCast, List.getElem?_cons_zero, List.getElem?_cons_succ, List.set_cons_zero, List.set_cons_succ, List.length_cons, List.length_nil, List.length_map, List.length_append, List.length_reverse, List.length_replicate, List.length_range, List.nil_append, List.append_nil, List.cons_append, Nat.zero_add, Nat.add_zero, Bool.not_true, Bool.not_false, if_true, if_false, ite_true, ite_false, decide_true, decide_false, Bool.and_true, Bool.true_and, Bool.and_false, Bool.false_and, Option.toList_none, Option.toList_some, Option.bind_some, List.replicate_zero, List.replicate_succ, List.map_nil, List.map_cons, Nat.reduceSub, Nat.reduceAdd, Nat.reduceMul, Nat.reduceLeDiff, Nat.reduceLT, Nat.reduceEqDiff, Int.reduceLE, Int.reduceLT, Int.reduceNeg, Int.reduceMul, Int.reduceAdd, Int.reduceSub, Int.reducePow, Int.reduceToNat, Int.reduceEq, true_and, and_true, eq_self, Int.zero_add, Bool.false_eq_true]))
  refine wp_peaks (k := k) (by rw [List.length_map]; omega) ?_
  rw [pk_mul hf]
  (simp -failIfUnchanged -dsimp -implicitDefEqProofs only [↓PD.Wa, PD.Wb0, PD.Wb1, PD.Wb2, PD.Wb3, PD.Wb4, PD.Wb5, PD.lim, PD.smallI, List.getD_cons_zero, List.getD_cons_succ, List.flatten_cons, List.flatten_nil, PD.setMany, Int.toNat_natCast, List.getElem?_cons_zero, List.getElem?_cons_succ, List.set_cons_zero, List.set_cons_succ, List.length_cons, List.length_nil, List.length_map, List.length_append, List.length_reverse, List.length_replicate, List.length_range, List.nil_append, List.append_nil, List.cons_append, Nat.zero_add, Nat.add_zero, Bool.not_true, Bool.not_false, if_true, if_false, ite_true, ite_false, decide_true, decide_false, Bool.and_true, Bool.true_and, Bool.and_false, Bool.false_and, Option.toList_none, Option.toList_some, Option.bind_some, List.replicate_zero, List.replicate_succ, List.map_nil, List.map_cons, Nat.reduceSub, Nat.reduceAdd, Nat.reduceMul, Nat.reduceLeDiff, Nat.reduceLT, Nat.reduceEqDiff, Int.reduceLE, Int.reduceLT, Int.reduceNeg, Int.reduceMul, Int.reduceAdd, Int.reduceSub, Int.reducePow, Int.reduceToNat, Int.reduceEq, true_and, and_true, eq_self, Int.zero_add, Bool.false_eq_true, List.append_assoc, PD.app_get, PD.app_set]; repeat ((refine wp_must (by first | (simp only [Bool.and_eq_true, decide_eq_true_eq, List.length_map, List.length_append, List.length_replicate, List.length_cons, List.length_nil]; omega) | exact mulOk_r (by omega) (by omega) | exact mulOk_l (by omega) (by omega) | exact PD.divOk_of (by omega)) ?_); simp -failIfUnchanged -dsimp -implicitDefEqProofs only [↓PD.Wa, PD.Wb0, PD.Wb1, PD.Wb2, PD.Wb3, PD.Wb4, PD.Wb5, PD.lim, PD.smallI, List.getD_cons_zero, List.getD_cons_succ, List.flatten_cons, List.flatten_nil, PD.setMany, Int.toNat_natCast, List.getElem?_cons_zero, List.getElem?_cons_succ, List.set_cons_zero, List.set_cons_succ, List.length_cons, List.length_nil, List.length_map, List.length_append, List.length_reverse, List.length_replicate, List.length_range, List.nil_append, List.append_nil, List.cons_append, Nat.zero_add, Nat.add_zero, Bool.not_true, Bool.not_false, if_true, if_false, ite_true, ite_false, decide_true, decide_false, Bool.and_true, Bool.true_and, Bool.and_false, Bool.false_and, Option.toList_none, Option.toList_some, Option.bind_some, List.replicate_zero, List.replicate_succ, List.map_nil, List.map_cons, Nat.reduceSub, Nat.reduceAdd, Nat.reduceMul, Nat.reduceLeDiff, Nat.reduceLT, Nat.reduceEqDiff, Int.reduceLE, Int.reduceLT, Int.reduceNeg, Int.reduceMul, Int.reduceAdd, Int.reduceSub, Int.reducePow, Int.reduceToNat, Int.reduceEq, true_and, and_true, eq_self, Int.zero_add, Bool.false_eq_true, List.append_assoc, PD.app_get, PD.app_set]))
  refine wp_dif (k := k + 1) (by omega) ?_
  (simp -failIfUnchanged -dsimp -implicitDefEqProofs only [↓PD.Wa, PD.Wb0, PD.Wb1, PD.Wb2, PD.Wb3, PD.Wb4, PD.Wb5, PD.lim, PD.smallI, List.getD_cons_zero, List.getD_cons_succ, List.flatten_cons, List.flatten_nil, PD.setMany, Int.toNat_natCast, List.getElem?_cons_zero, List.getElem?_cons_succ, List.set_cons_zero, List.set_cons_succ, List.length_cons, List.length_nil, List.length_map, List.length_append, List.length_reverse, List.length_replicate, List.length_range, List.nil_append, List.append_nil, List.cons_append, Nat.zero_add, Nat.add_zero, Bool.not_true, Bool.not_false, if_true, if_false, ite_true, ite_false, decide_true, decide_false, Bool.and_true, Bool.true_and, Bool.and_false, Bool.false_and, Option.toList_none, Option.toList_some, Option.bind_some, List.replicate_zero, List.replicate_succ, List.map_nil, List.map_cons, Nat.reduceSub, Nat.reduceAdd, Nat.reduceMul, Nat.reduceLeDiff, Nat.reduceLT, Nat.reduceEqDiff, Int.reduceLE, Int.reduceLT, Int.reduceNeg, Int.reduceMul, Int.reduceAdd, Int.reduceSub, Int.reducePow, Int.reduceToNat, Int.reduceEq, true_and, and_true, eq_self, Int.zero_add, Bool.false_eq_true]; repeat ((refine wp_must (by first | (simp only [Bool.and_eq_true, decide_eq_true_eq, List.length_map, List.length_append, List.length_replicate, List.length_cons, List.length_nil]; omega) | exact mulOk_r (by omega) (by omega) | exact mulOk_l (by omega) (by omega) | exact PD.divOk_of (by omega)) ?_); simp -failIfUnchanged -dsimp -implicitDefEqProofs only [↓PD.Wa, PD.Wb0, PD.Wb1, PD.Wb2, PD.Wb3, PD.Wb4, PD.Wb5, PD.lim, PD.smallI, List.getD_cons_zero, List.getD_cons_succ, List.flatten_cons, List.flatten_nil, PD.setMany, Int.toNat_natCast, List.getElem?_cons_zero, List.getElem?_cons_succ, List.set_cons_zero, List.set_cons_succ, List.length_cons, List.length_nil, List.length_map, List.length_append, List.length_reverse, List.length_replicate, List.length_range, List.nil_append, List.append_nil, List.cons_append, Nat.zero_add, Nat.add_zero, Bool.not_true, Bool.not_false, if_true, if_false, ite_true, ite_false, decide_true, decide_false, Bool.and_true, Bool.true_and, Bool.and_false, Bool.false_and, Option.toList_none, Option.toList_some, Option.bind_some, List.replicate_zero, List.replicate_succ, List.map_nil, List.map_cons, Nat.reduceSub, Nat.reduceAdd, Nat.reduceMul, Nat.reduceLeDiff, Nat.reduceLT, Nat.reduceEqDiff, Int.reduceLE, Int.reduceLT, Int.reduceNeg, Int.reduceMul, Int.reduceAdd, Int.reduceSub, Int.reducePow, Int.reduceToNat, Int.reduceEq, true_and, and_true, eq_self, Int.zero_add, Bool.false_eq_true]))
  refine wp_changes (k := k) (by omega) ?_
  (simp -failIfUnchanged -dsimp -implicitDefEqProofs only [↓PD.Wa, PD.Wb0, PD.Wb1, PD.Wb2, PD.Wb3, PD.Wb4, PD.Wb5, PD.lim, PD.smallI, List.getD_cons_zero, List.getD_cons_succ, List.flatten_cons, List.flatten_nil, PD.setMany, Int.toNat_natCast, List.getElem?_cons_zero, List.getElem?_cons_succ, List.set_cons_zero, List.set_cons_succ, List.length_cons, List.length_nil, List.length_map, List.length_append, List.length_reverse, List.length_replicate, List.length_range, List.nil_append, List.append_nil, List.cons_append, Nat.zero_add, Nat.add_zero, Bool.not_true, Bool.not_false, if_true, if_false, ite_true, ite_false, decide_true, decide_false, Bool.and_true, Bool.true_and, Bool.and_false, Bool.false_and, Option.toList_none, Option.toList_some, Option.bind_some, List.replicate_zero, List.replicate_succ, List.map_nil, List.map_cons, Nat.reduceSub, Nat.reduceAdd, Nat.reduceMul, Nat.reduceLeDiff, Nat.reduceLT, Nat.reduceEqDiff, Int.reduceLE, Int.reduceLT, Int.reduceNeg, Int.reduceMul, Int.reduceAdd, Int.reduceSub, Int.reducePow, Int.reduceToNat, Int.reduceEq, true_and, and_true, eq_self, Int.zero_add, Bool.false_eq_true, List.append_assoc, PD.app_get, PD.app_set, L3, E1, E3, E4, eq_dat R1.sh]; repeat ((refine wp_must (by first | (simp only [Bool.and_eq_true, decide_eq_true_eq, List.length_map, List.length_append, List.length_replicate, List.length_cons, List.length_nil]; omega) | exact mulOk_r (by omega) (by omega) | exact mulOk_l (by omega) (by omega) | exact PD.divOk_of (by omega)) ?_); simp -failIfUnchanged -dsimp -implicitDefEqProofs only [↓PD.Wa, PD.Wb0, PD.Wb1, PD.Wb2, PD.Wb3, PD.Wb4, PD.Wb5, PD.lim, PD.smallI, List.getD_cons_zero, List.getD_cons_succ, List.flatten_cons, List.flatten_nil, PD.setMany, Int.toNat_natCast, List.getElem?_cons_zero, List.getElem?_cons_succ, List.set_cons_zero, List.set_cons_succ, List.length_cons, List.length_nil, List.length_map, List.length_append, List.length_reverse, List.length_replicate, List.length_range, List.nil_append, List.append_nil, List.cons_append, Nat.zero_add, Nat.add_zero, Bool.not_true, Bool.not_false, if_true, if_false, ite_true, ite_false, decide_true, decide_false, Bool.and_true, Bool.true_and, Bool.and_false, Bool.false_and, Option.toList_none, Option.toList_some, Option.bind_some, List.replicate_zero, List.replicate_succ, List.map_nil, List.map_cons, Nat.reduceSub, Nat.reduceAdd, Nat.reduceMul, Nat.reduceLeDiff, Nat.reduceLT, Nat.reduceEqDiff, Int.reduceLE, Int.reduceLT, Int.reduceNeg, Int.reduceMul, Int.reduceAdd, Int.reduceSub, Int.reducePow, Int.reduceToNat, Int.reduceEq, true_and, and_true, eq_self, Int.zero_add, Bool.false_eq_true, List.append_assoc, PD.app_get, PD.app_set, L3, E1, E3, E4, eq_dat R1.sh]))
  rw [end_own bare_bl]
  exact hq
def hand : List (List Int) := [[], [0], [5], [-5], [1, 2, 1], [1, 1], [1, -1], [0, 2, 5, 3, 4], [0, 0, 3, 3, 0]]
theorem plain (ns : List Int) (h : ns.length ≤ 63) : ∃ st', callF fns 12 13 [.scr (ns.map D.int)] [] = .ok (.bl true) st' := by
  refine law_of ?_
  refine wp_call (fn := f13) rfl rfl ?_
  show Wp (ex _ b13 [some (.scr (ns.map D.int)), none, none, none, none, none, none, none, none] []) (CallQ false _ _)
  (simp -failIfUnchanged -dsimp -implicitDefEqProofs only [↓PD.Wa, PD.Wb0, PD.Wb1, PD.Wb2, PD.Wb3, PD.Wb4, PD.Wb5, PD.lim, PD.smallI, List.getD_cons_zero, List.getD_cons_succ, List.flatten_cons, List.flatten_nil, PD.setMany, Int.toNat_natCast, List.getElem?_cons_zero, List.getElem?_cons_succ, List.set_cons_zero, List.set_cons_succ, List.length_cons, List.length_nil, List.length_map, List.length_append, List.length_reverse, List.length_replicate, List.length_range, List.nil_append, List.append_nil, List.cons_append, Nat.zero_add, Nat.add_zero, Bool.not_true, Bool.not_false, if_true, if_false, ite_true, ite_false, decide_true, decide_false, Bool.and_true, Bool.true_and, Bool.and_false, Bool.false_and, Option.toList_none, Option.toList_some, Option.bind_some, List.replicate_zero, List.replicate_succ, List.map_nil, List.map_cons, Nat.reduceSub, Nat.reduceAdd, Nat.reduceMul, Nat.reduceLeDiff, Nat.reduceLT, Nat.reduceEqDiff, Int.reduceLE, Int.reduceLT, Int.reduceNeg, Int.reduceMul, Int.reduceAdd, Int.reduceSub, Int.reducePow, Int.reduceToNat, Int.reduceEq, true_and, and_true, eq_self, Int.zero_add, Bool.false_eq_true, b13, x13_0, y13_1, x13_2, x13_3, x13_4, y13_5, x13_6, x13_7, y13_8, k13_9, k13_10, y13_11, x13_12, x13_13, y13_14, x13_15, y13_16, x13_17, x13_18, y13_19, k13_20, k13_21, y13_22, k13_23, k13_24, k13_26, y13_27, x13_28, y13_29, x13_30, y13_31, k13_32]; repeat ((refine wp_must (by first | (simp only [Bool.and_eq_true, decide_eq_true_eq, List.length_map, List.length_append, List.length_replicate, List.length_cons, List.length_nil]; omega) | exact mulOk_r (by omega) (by omega) | exact mulOk_l (by omega) (by omega) | exact PD.divOk_of (by omega)) ?_); simp -failIfUnchanged -dsimp -implicitDefEqProofs only [↓PD.Wa, PD.Wb0, PD.Wb1, PD.Wb2, PD.Wb3, PD.Wb4, PD.Wb5, PD.lim, PD.smallI, List.getD_cons_zero, List.getD_cons_succ, List.flatten_cons, List.flatten_nil, PD.setMany, Int.toNat_natCast, List.getElem?_cons_zero, List.getElem?_cons_succ, List.set_cons_zero, List.set_cons_succ, List.length_cons, List.length_nil, List.length_map, List.length_append, List.length_reverse, List.length_replicate, List.length_range, List.nil_append, List.append_nil, List.cons_append, Nat.zero_add, Nat.add_zero, Bool.not_true, Bool.not_false, if_true, if_false, ite_true, ite_false, decide_true, decide_false, Bool.and_true, Bool.true_and, Bool.and_false, Bool.false_and, Option.toList_none, Option.toList_some, Option.bind_some, List.replicate_zero, List.replicate_succ, List.map_nil, List.map_cons, Nat.reduceSub, Nat.reduceAdd, Nat.reduceMul, Nat.reduceLeDiff, Nat.reduceLT, Nat.reduceEqDiff, Int.reduceLE, Int.reduceLT, Int.reduceNeg, Int.reduceMul, Int.reduceAdd, Int.reduceSub, Int.reducePow, Int.reduceToNat, Int.reduceEq, true_and, and_true, eq_self, Int.zero_add, Bool.false_eq_true, b13, x13_0, y13_1, x13_2, x13_3, x13_4, y13_5, x13_6, x13_7, y13_8, k13_9, k13_10, y13_11, x13_12, x13_13, y13_14, x13_15, y13_16, x13_17, x13_18, y13_19, k13_20, k13_21, y13_22, k13_23, k13_24, k13_26, y13_27, x13_28, y13_29, x13_30, y13_31, k13_32]))
  refine wp_deck (c1 := 88760655) (c2 := 65) rfl h fun d D0 => ?_
  (simp -failIfUnchanged -dsimp -implicitDefEqProofs only [↓PD.Wa, PD.Wb0, PD.Wb1, PD.Wb2, PD.Wb3, PD.Wb4, PD.Wb5, PD.lim, PD.smallI, List.getD_cons_zero, List.getD_cons_succ, List.flatten_cons, List.flatten_nil, PD.setMany, Int.toNat_natCast, List.getElem?_cons_zero, List.getElem?_cons_succ, List.set_cons_zero, List.set_cons_succ, List.length_cons, List.length_nil, List.length_map, List.length_append, List.length_reverse, List.length_replicate, List.length_range, List.nil_append, List.append_nil, List.cons_append, Nat.zero_add, Nat.add_zero, Bool.not_true, Bool.not_false, if_true, if_false, ite_true, ite_false, decide_true, decide_false, Bool.and_true, Bool.true_and, Bool.and_false, Bool.false_and, Option.toList_none, Option.toList_some, Option.bind_some, List.replicate_zero, List.replicate_succ, List.map_nil, List.map_cons, Nat.reduceSub, Nat.reduceAdd, Nat.reduceMul, Nat.reduceLeDiff, Nat.reduceLT, Nat.reduceEqDiff, Int.reduceLE, Int.reduceLT, Int.reduceNeg, Int.reduceMul, Int.reduceAdd, Int.reduceSub, Int.reducePow, Int.reduceToNat, Int.reduceEq, true_and, and_true, eq_self, Int.zero_add, Bool.false_eq_true]; repeat ((refine wp_must (by first | (simp only [Bool.and_eq_true, decide_eq_true_eq, List.length_map, List.length_append, List.length_replicate, List.length_cons, List.length_nil]; omega) | exact mulOk_r (by omega) (by omega) | exact mulOk_l (by omega) (by omega) | exact PD.divOk_of (by omega)) ?_); simp -failIfUnchanged -dsimp -implicitDefEqProofs only [↓PD.Wa, PD.Wb0, PD.Wb1, PD.Wb2, PD.Wb3, PD.Wb4, PD.Wb5, PD.lim, PD.smallI, List.getD_cons_zero, List.getD_cons_succ, List.flatten_cons, List.flatten_nil, PD.setMany, Int.toNat_natCast, List.getElem?_cons_zero, List.getElem?_cons_succ, List.set_cons_zero, List.set_cons_succ, List.length_cons, List.length_nil, List.length_map, List.length_append, List.length_reverse, List.length_replicate, List.length_range, List.nil_append, List.append_nil, List.cons_append, Nat.zero_add, Nat.add_zero, Bool.not_true, Bool.not_false, if_true, if_false, ite_true, ite_false, decide_true, decide_false, Bool.and_true, Bool.true_and, Bool.and_false, Bool.false_and, Option.toList_none, Option.toList_some, Option.bind_some, List.replicate_zero, List.replicate_succ, List.map_nil, List.map_cons, Nat.reduceSub, Nat.reduceAdd, Nat.reduceMul, Nat.reduceLeDiff, Nat.reduceLT, Nat.reduceEqDiff, Int.reduceLE, Int.reduceLT, Int.reduceNeg, Int.reduceMul, Int.reduceAdd, Int.reduceSub, Int.reducePow, Int.reduceToNat, Int.reduceEq, true_and, and_true, eq_self, Int.zero_add, Bool.false_eq_true]))
  refine wp_forR [2, 4, 5, 6, 7] [none, none, none, none, none] (fun i vs s => ∃ a b c e f d1, vs = [a, b, c, e, f] ∧ s = dkS d1 [] ∧ d1.ok (500 * i)) rfl ⟨_, _, _, _, _, d, rfl, rfl, D0.mono (by omega)⟩ ?_ ?_
  · rintro i vs s hi ⟨_, _, _, _, _, d, rfl, rfl, DD⟩
    (simp -failIfUnchanged -dsimp -implicitDefEqProofs only [↓PD.Wa, PD.Wb0, PD.Wb1, PD.Wb2, PD.Wb3, PD.Wb4, PD.Wb5, PD.lim, PD.smallI, List.getD_cons_zero, List.getD_cons_succ, List.flatten_cons, List.flatten_nil, PD.setMany, Int.toNat_natCast, List.getElem?_cons_zero, List.getElem?_cons_succ, List.set_cons_zero, List.set_cons_succ, List.length_cons, List.length_nil, List.length_map, List.length_append, List.length_reverse, List.length_replicate, List.length_range, List.nil_append, List.append_nil, List.cons_append, Nat.zero_add, Nat.add_zero, Bool.not_true, Bool.not_false, if_true, if_false, ite_true, ite_false, decide_true, decide_false, Bool.and_true, Bool.true_and, Bool.and_false, Bool.false_and, Option.toList_none, Option.toList_some, Option.bind_some, List.replicate_zero, List.replicate_succ, List.map_nil, List.map_cons, Nat.reduceSub, Nat.reduceAdd, Nat.reduceMul, Nat.reduceLeDiff, Nat.reduceLT, Nat.reduceEqDiff, Int.reduceLE, Int.reduceLT, Int.reduceNeg, Int.reduceMul, Int.reduceAdd, Int.reduceSub, Int.reducePow, Int.reduceToNat, Int.reduceEq, true_and, and_true, eq_self, Int.zero_add, Bool.false_eq_true]; repeat ((refine wp_must (by first | (simp only [Bool.and_eq_true, decide_eq_true_eq, List.length_map, List.length_append, List.length_replicate, List.length_cons, List.length_nil]; omega) | exact mulOk_r (by omega) (by omega) | exact mulOk_l (by omega) (by omega) | exact PD.divOk_of (by omega)) ?_); simp -failIfUnchanged -dsimp -implicitDefEqProofs only [↓PD.Wa, PD.Wb0, PD.Wb1, PD.Wb2, PD.Wb3, PD.Wb4, PD.Wb5, PD.lim, PD.smallI, List.getD_cons_zero, List.getD_cons_succ, List.flatten_cons, List.flatten_nil, PD.setMany, Int.toNat_natCast, List.getElem?_cons_zero, List.getElem?_cons_succ, List.set_cons_zero, List.set_cons_succ, List.length_cons, List.length_nil, List.length_map, List.length_append, List.length_reverse, List.length_replicate, List.length_range, List.nil_append, List.append_nil, List.cons_append, Nat.zero_add, Nat.add_zero, Bool.not_true, Bool.not_false, if_true, if_false, ite_true, ite_false, decide_true, decide_false, Bool.and_true, Bool.true_and, Bool.and_false, Bool.false_and, Option.toList_none, Option.toList_some, Option.bind_some, List.replicate_zero, List.replicate_succ, List.map_nil, List.map_cons, Nat.reduceSub, Nat.reduceAdd, Nat.reduceMul, Nat.reduceLeDiff, Nat.reduceLT, Nat.reduceEqDiff, Int.reduceLE, Int.reduceLT, Int.reduceNeg, Int.reduceMul, Int.reduceAdd, Int.reduceSub, Int.reducePow, Int.reduceToNat, Int.reduceEq, true_and, and_true, eq_self, Int.zero_add, Bool.false_eq_true]))
    refine wp_hills (k := 8) DD (by omega) fun a d1 la ba D1 => ?_
    (simp -failIfUnchanged -dsimp -implicitDefEqProofs only [↓PD.Wa, PD.Wb0, PD.Wb1, PD.Wb2, PD.Wb3, PD.Wb4, PD.Wb5, PD.lim, PD.smallI, List.getD_cons_zero, List.getD_cons_succ, List.flatten_cons, List.flatten_nil, PD.setMany, Int.toNat_natCast, List.getElem?_cons_zero, List.getElem?_cons_succ, List.set_cons_zero, List.set_cons_succ, List.length_cons, List.length_nil, List.length_map, List.length_append, List.length_reverse, List.length_replicate, List.length_range, List.nil_append, List.append_nil, List.cons_append, Nat.zero_add, Nat.add_zero, Bool.not_true, Bool.not_false, if_true, if_false, ite_true, ite_false, decide_true, decide_false, Bool.and_true, Bool.true_and, Bool.and_false, Bool.false_and, Option.toList_none, Option.toList_some, Option.bind_some, List.replicate_zero, List.replicate_succ, List.map_nil, List.map_cons, Nat.reduceSub, Nat.reduceAdd, Nat.reduceMul, Nat.reduceLeDiff, Nat.reduceLT, Nat.reduceEqDiff, Int.reduceLE, Int.reduceLT, Int.reduceNeg, Int.reduceMul, Int.reduceAdd, Int.reduceSub, Int.reducePow, Int.reduceToNat, Int.reduceEq, true_and, and_true, eq_self, Int.zero_add, Bool.false_eq_true]; repeat ((refine wp_must (by first | (simp only [Bool.and_eq_true, decide_eq_true_eq, List.length_map, List.length_append, List.length_replicate, List.length_cons, List.length_nil]; omega) | exact mulOk_r (by omega) (by omega) | exact mulOk_l (by omega) (by omega) | exact PD.divOk_of (by omega)) ?_); simp -failIfUnchanged -dsimp -implicitDefEqProofs only [↓PD.Wa, PD.Wb0, PD.Wb1, PD.Wb2, PD.Wb3, PD.Wb4, PD.Wb5, PD.lim, PD.smallI, List.getD_cons_zero, List.getD_cons_succ, List.flatten_cons, List.flatten_nil, PD.setMany, Int.toNat_natCast, List.getElem?_cons_zero, List.getElem?_cons_succ, List.set_cons_zero, List.set_cons_succ, List.length_cons, List.length_nil, List.length_map, List.length_append, List.length_reverse, List.length_replicate, List.length_range, List.nil_append, List.append_nil, List.cons_append, Nat.zero_add, Nat.add_zero, Bool.not_true, Bool.not_false, if_true, if_false, ite_true, ite_false, decide_true, decide_false, Bool.and_true, Bool.true_and, Bool.and_false, Bool.false_and, Option.toList_none, Option.toList_some, Option.bind_some, List.replicate_zero, List.replicate_succ, List.map_nil, List.map_cons, Nat.reduceSub, Nat.reduceAdd, Nat.reduceMul, Nat.reduceLeDiff, Nat.reduceLT, Nat.reduceEqDiff, Int.reduceLE, Int.reduceLT, Int.reduceNeg, Int.reduceMul, Int.reduceAdd, Int.reduceSub, Int.reducePow, Int.reduceToNat, Int.reduceEq, true_and, and_true, eq_self, Int.zero_add, Bool.false_eq_true]))
    refine wp_line8 (k := 8) D1 (by omega) fun b d2 lb bb D2 => ?_
    (simp -failIfUnchanged -dsimp -implicitDefEqProofs only [↓PD.Wa, PD.Wb0, PD.Wb1, PD.Wb2, PD.Wb3, PD.Wb4, PD.Wb5, PD.lim, PD.smallI, List.getD_cons_zero, List.getD_cons_succ, List.flatten_cons, List.flatten_nil, PD.setMany, Int.toNat_natCast, List.getElem?_cons_zero, List.getElem?_cons_succ, List.set_cons_zero, List.set_cons_succ, List.length_cons, List.length_nil, List.length_map, List.length_append, List.length_reverse, List.length_replicate, List.length_range, List.nil_append, List.append_nil, List.cons_append, Nat.zero_add, Nat.add_zero, Bool.not_true, Bool.not_false, if_true, if_false, ite_true, ite_false, decide_true, decide_false, Bool.and_true, Bool.true_and, Bool.and_false, Bool.false_and, Option.toList_none, Option.toList_some, Option.bind_some, List.replicate_zero, List.replicate_succ, List.map_nil, List.map_cons, Nat.reduceSub, Nat.reduceAdd, Nat.reduceMul, Nat.reduceLeDiff, Nat.reduceLT, Nat.reduceEqDiff, Int.reduceLE, Int.reduceLT, Int.reduceNeg, Int.reduceMul, Int.reduceAdd, Int.reduceSub, Int.reducePow, Int.reduceToNat, Int.reduceEq, true_and, and_true, eq_self, Int.zero_add, Bool.false_eq_true]; repeat ((refine wp_must (by first | (simp only [Bool.and_eq_true, decide_eq_true_eq, List.length_map, List.length_append, List.length_replicate, List.length_cons, List.length_nil]; omega) | exact mulOk_r (by omega) (by omega) | exact mulOk_l (by omega) (by omega) | exact PD.divOk_of (by omega)) ?_); simp -failIfUnchanged -dsimp -implicitDefEqProofs only [↓PD.Wa, PD.Wb0, PD.Wb1, PD.Wb2, PD.Wb3, PD.Wb4, PD.Wb5, PD.lim, PD.smallI, List.getD_cons_zero, List.getD_cons_succ, List.flatten_cons, List.flatten_nil, PD.setMany, Int.toNat_natCast, List.getElem?_cons_zero, List.getElem?_cons_succ, List.set_cons_zero, List.set_cons_succ, List.length_cons, List.length_nil, List.length_map, List.length_append, List.length_reverse, List.length_replicate, List.length_range, List.nil_append, List.append_nil, List.cons_append, Nat.zero_add, Nat.add_zero, Bool.not_true, Bool.not_false, if_true, if_false, ite_true, ite_false, decide_true, decide_false, Bool.and_true, Bool.true_and, Bool.and_false, Bool.false_and, Option.toList_none, Option.toList_some, Option.bind_some, List.replicate_zero, List.replicate_succ, List.map_nil, List.map_cons, Nat.reduceSub, Nat.reduceAdd, Nat.reduceMul, Nat.reduceLeDiff, Nat.reduceLT, Nat.reduceEqDiff, Int.reduceLE, Int.reduceLT, Int.reduceNeg, Int.reduceMul, Int.reduceAdd, Int.reduceSub, Int.reducePow, Int.reduceToNat, Int.reduceEq, true_and, and_true, eq_self, Int.zero_add, Bool.false_eq_true]))
    refine wp_pick7 (k := 9) D2 (by omega) (.inl rfl) ⟨by simp, by simp⟩ fun y d3 hy D3 => ?_
    obtain ⟨far, hf0, hf1, rfl⟩ : ∃ far : Int, far ≠ 0 ∧ far.natAbs < 2 ^ 10 ∧ y = .int far := by
      simp only [List.mem_cons, List.not_mem_nil, or_false] at hy
      rcases hy with rfl | rfl | rfl <;> exact ⟨_, by decide, by decide, rfl⟩
    (simp -failIfUnchanged -dsimp -implicitDefEqProofs only [↓PD.Wa, PD.Wb0, PD.Wb1, PD.Wb2, PD.Wb3, PD.Wb4, PD.Wb5, PD.lim, PD.smallI, List.getD_cons_zero, List.getD_cons_succ, List.flatten_cons, List.flatten_nil, PD.setMany, Int.toNat_natCast, List.getElem?_cons_zero, List.getElem?_cons_succ, List.set_cons_zero, List.set_cons_succ, List.length_cons, List.length_nil, List.length_map, List.length_append, List.length_reverse, List.length_replicate, List.length_range, List.nil_append, List.append_nil, List.cons_append, Nat.zero_add, Nat.add_zero, Bool.not_true, Bool.not_false, if_true, if_false, ite_true, ite_false, decide_true, decide_false, Bool.and_true, Bool.true_and, Bool.and_false, Bool.false_and, Option.toList_none, Option.toList_some, Option.bind_some, List.replicate_zero, List.replicate_succ, List.map_nil, List.map_cons, Nat.reduceSub, Nat.reduceAdd, Nat.reduceMul, Nat.reduceLeDiff, Nat.reduceLT, Nat.reduceEqDiff, Int.reduceLE, Int.reduceLT, Int.reduceNeg, Int.reduceMul, Int.reduceAdd, Int.reduceSub, Int.reducePow, Int.reduceToNat, Int.reduceEq, true_and, and_true, eq_self, Int.zero_add, Bool.false_eq_true]; repeat ((refine wp_must (by first | (simp only [Bool.and_eq_true, decide_eq_true_eq, List.length_map, List.length_append, List.length_replicate, List.length_cons, List.length_nil]; omega) | exact mulOk_r (by omega) (by omega) | exact mulOk_l (by omega) (by omega) | exact PD.divOk_of (by omega)) ?_); simp -failIfUnchanged -dsimp -implicitDefEqProofs only [↓PD.Wa, PD.Wb0, PD.Wb1, PD.Wb2, PD.Wb3, PD.Wb4, PD.Wb5, PD.lim, PD.smallI, List.getD_cons_zero, List.getD_cons_succ, List.flatten_cons, List.flatten_nil, PD.setMany, Int.toNat_natCast, List.getElem?_cons_zero, List.getElem?_cons_succ, List.set_cons_zero, List.set_cons_succ, List.length_cons, List.length_nil, List.length_map, List.length_append, List.length_reverse, List.length_replicate, List.length_range, List.nil_append, List.append_nil, List.cons_append, Nat.zero_add, Nat.add_zero, Bool.not_true, Bool.not_false, if_true, if_false, ite_true, ite_false, decide_true, decide_false, Bool.and_true, Bool.true_and, Bool.and_false, Bool.false_and, Option.toList_none, Option.toList_some, Option.bind_some, List.replicate_zero, List.replicate_succ, List.map_nil, List.map_cons, Nat.reduceSub, Nat.reduceAdd, Nat.reduceMul, Nat.reduceLeDiff, Nat.reduceLT, Nat.reduceEqDiff, Int.reduceLE, Int.reduceLT, Int.reduceNeg, Int.reduceMul, Int.reduceAdd, Int.reduceSub, Int.reducePow, Int.reduceToNat, Int.reduceEq, true_and, and_true, eq_self, Int.zero_add, Bool.false_eq_true]))
    refine wp_right (k := 8) la ba hf0 hf1 ?_
    (simp -failIfUnchanged -dsimp -implicitDefEqProofs only [↓PD.Wa, PD.Wb0, PD.Wb1, PD.Wb2, PD.Wb3, PD.Wb4, PD.Wb5, PD.lim, PD.smallI, List.getD_cons_zero, List.getD_cons_succ, List.flatten_cons, List.flatten_nil, PD.setMany, Int.toNat_natCast, List.getElem?_cons_zero, List.getElem?_cons_succ, List.set_cons_zero, List.set_cons_succ, List.length_cons, List.length_nil, List.length_map, List.length_append, List.length_reverse, List.length_replicate, List.length_range, List.nil_append, List.append_nil, List.cons_append, Nat.zero_add, Nat.add_zero, Bool.not_true, Bool.not_false, if_true, if_false, ite_true, ite_false, decide_true, decide_false, Bool.and_true, Bool.true_and, Bool.and_false, Bool.false_and, Option.toList_none, Option.toList_some, Option.bind_some, List.replicate_zero, List.replicate_succ, List.map_nil, List.map_cons, Nat.reduceSub, Nat.reduceAdd, Nat.reduceMul, Nat.reduceLeDiff, Nat.reduceLT, Nat.reduceEqDiff, Int.reduceLE, Int.reduceLT, Int.reduceNeg, Int.reduceMul, Int.reduceAdd, Int.reduceSub, Int.reducePow, Int.reduceToNat, Int.reduceEq, true_and, and_true, eq_self, Int.zero_add, Bool.false_eq_true]; repeat ((refine wp_must (by first | (simp only [Bool.and_eq_true, decide_eq_true_eq, List.length_map, List.length_append, List.length_replicate, List.length_cons, List.length_nil]; omega) | exact mulOk_r (by omega) (by omega) | exact mulOk_l (by omega) (by omega) | exact PD.divOk_of (by omega)) ?_); simp -failIfUnchanged -dsimp -implicitDefEqProofs only [↓PD.Wa, PD.Wb0, PD.Wb1, PD.Wb2, PD.Wb3, PD.Wb4, PD.Wb5, PD.lim, PD.smallI, List.getD_cons_zero, List.getD_cons_succ, List.flatten_cons, List.flatten_nil, PD.setMany, Int.toNat_natCast, List.getElem?_cons_zero, List.getElem?_cons_succ, List.set_cons_zero, List.set_cons_succ, List.length_cons, List.length_nil, List.length_map, List.length_append, List.length_reverse, List.length_replicate, List.length_range, List.nil_append, List.append_nil, List.cons_append, Nat.zero_add, Nat.add_zero, Bool.not_true, Bool.not_false, if_true, if_false, ite_true, ite_false, decide_true, decide_false, Bool.and_true, Bool.true_and, Bool.and_false, Bool.false_and, Option.toList_none, Option.toList_some, Option.bind_some, List.replicate_zero, List.replicate_succ, List.map_nil, List.map_cons, Nat.reduceSub, Nat.reduceAdd, Nat.reduceMul, Nat.reduceLeDiff, Nat.reduceLT, Nat.reduceEqDiff, Int.reduceLE, Int.reduceLT, Int.reduceNeg, Int.reduceMul, Int.reduceAdd, Int.reduceSub, Int.reducePow, Int.reduceToNat, Int.reduceEq, true_and, and_true, eq_self, Int.zero_add, Bool.false_eq_true]))
    refine wp_right (k := 8) lb bb (by decide) (by decide) ?_
    (simp -failIfUnchanged -dsimp -implicitDefEqProofs only [↓PD.Wa, PD.Wb0, PD.Wb1, PD.Wb2, PD.Wb3, PD.Wb4, PD.Wb5, PD.lim, PD.smallI, List.getD_cons_zero, List.getD_cons_succ, List.flatten_cons, List.flatten_nil, PD.setMany, Int.toNat_natCast, List.getElem?_cons_zero, List.getElem?_cons_succ, List.set_cons_zero, List.set_cons_succ, List.length_cons, List.length_nil, List.length_map, List.length_append, List.length_reverse, List.length_replicate, List.length_range, List.nil_append, List.append_nil, List.cons_append, Nat.zero_add, Nat.add_zero, Bool.not_true, Bool.not_false, if_true, if_false, ite_true, ite_false, decide_true, decide_false, Bool.and_true, Bool.true_and, Bool.and_false, Bool.false_and, Option.toList_none, Option.toList_some, Option.bind_some, List.replicate_zero, List.replicate_succ, List.map_nil, List.map_cons, Nat.reduceSub, Nat.reduceAdd, Nat.reduceMul, Nat.reduceLeDiff, Nat.reduceLT, Nat.reduceEqDiff, Int.reduceLE, Int.reduceLT, Int.reduceNeg, Int.reduceMul, Int.reduceAdd, Int.reduceSub, Int.reducePow, Int.reduceToNat, Int.reduceEq, true_and, and_true, eq_self, Int.zero_add, Bool.false_eq_true]; repeat ((refine wp_must (by first | (simp only [Bool.and_eq_true, decide_eq_true_eq, List.length_map, List.length_append, List.length_replicate, List.length_cons, List.length_nil]; omega) | exact mulOk_r (by omega) (by omega) | exact mulOk_l (by omega) (by omega) | exact PD.divOk_of (by omega)) ?_); simp -failIfUnchanged -dsimp -implicitDefEqProofs only [↓PD.Wa, PD.Wb0, PD.Wb1, PD.Wb2, PD.Wb3, PD.Wb4, PD.Wb5, PD.lim, PD.smallI, List.getD_cons_zero, List.getD_cons_succ, List.flatten_cons, List.flatten_nil, PD.setMany, Int.toNat_natCast, List.getElem?_cons_zero, List.getElem?_cons_succ, List.set_cons_zero, List.set_cons_succ, List.length_cons, List.length_nil, List.length_map, List.length_append, List.length_reverse, List.length_replicate, List.length_range, List.nil_append, List.append_nil, List.cons_append, Nat.zero_add, Nat.add_zero, Bool.not_true, Bool.not_false, if_true, if_false, ite_true, ite_false, decide_true, decide_false, Bool.and_true, Bool.true_and, Bool.and_false, Bool.false_and, Option.toList_none, Option.toList_some, Option.bind_some, List.replicate_zero, List.replicate_succ, List.map_nil, List.map_cons, Nat.reduceSub, Nat.reduceAdd, Nat.reduceMul, Nat.reduceLeDiff, Nat.reduceLT, Nat.reduceEqDiff, Int.reduceLE, Int.reduceLT, Int.reduceNeg, Int.reduceMul, Int.reduceAdd, Int.reduceSub, Int.reducePow, Int.reduceToNat, Int.reduceEq, true_and, and_true, eq_self, Int.zero_add, Bool.false_eq_true]))
    by_cases z : a ≠ [] ∧ b ≠ []
    · have z1 : decide (a = []) = false := decide_eq_false z.1
      have z2 : decide (b = []) = false := decide_eq_false z.2
      have zf : ∀ j : Nat, (List.replicate j [D.int 0]).flatten = (List.replicate j (0 : Int)).map D.int := zer_flat
      by_cases hlt : (b.length : Int) < (a.length : Int)
      · skip
        have pl : (b ++ List.replicate (a.length - b.length) 0).length ≤ 60 := by simp; omega
        have e : ((a.length : Int) - (b.length : Int)).toNat = a.length - b.length := by omega
        have ld := difR_le a
        have ld2 := difR_le (b ++ List.replicate (a.length - b.length) 0)
        have lad := addR_len a b
        have dd := difR_add z.1 (show b.length ≤ a.length by omega)
        (simp -failIfUnchanged -dsimp -implicitDefEqProofs only [↓PD.Wa, PD.Wb0, PD.Wb1, PD.Wb2, PD.Wb3, PD.Wb4, PD.Wb5, PD.lim, PD.smallI, List.getD_cons_zero, List.getD_cons_succ, List.flatten_cons, List.flatten_nil, PD.setMany, Int.toNat_natCast, List.getElem?_cons_zero, List.getElem?_cons_succ, List.set_cons_zero, List.set_cons_succ, List.length_cons, List.length_nil, List.length_map, List.length_append, List.length_reverse, List.length_replicate, List.length_range, List.nil_append, List.append_nil, List.cons_append, Nat.zero_add, Nat.add_zero, Bool.not_true, Bool.not_false, if_true, if_false, ite_true, ite_false, decide_true, decide_false, Bool.and_true, Bool.true_and, Bool.and_false, Bool.false_and, Option.toList_none, Option.toList_some, Option.bind_some, List.replicate_zero, List.replicate_succ, List.map_nil, List.map_cons, Nat.reduceSub, Nat.reduceAdd, Nat.reduceMul, Nat.reduceLeDiff, Nat.reduceLT, Nat.reduceEqDiff, Int.reduceLE, Int.reduceLT, Int.reduceNeg, Int.reduceMul, Int.reduceAdd, Int.reduceSub, Int.reducePow, Int.reduceToNat, Int.reduceEq, true_and, and_true, eq_self, Int.zero_add, Bool.false_eq_true, b13, x13_0, y13_1, x13_2, x13_3, x13_4, y13_5, x13_6, x13_7, y13_8, k13_9, k13_10, y13_11, x13_12, x13_13, y13_14, x13_15, y13_16, x13_17, x13_18, y13_19, k13_20, k13_21, y13_22, k13_23, k13_24, y13_25, k13_26, y13_27, x13_28, y13_29, x13_30, y13_31, k13_32, z1, z2, decide_eq_true hlt, zer_flat, e, ← List.map_append]; repeat ((refine wp_must (by first | (simp only [Bool.and_eq_true, decide_eq_true_eq, List.length_map, List.length_append, List.length_replicate, List.length_cons, List.length_nil]; omega) | exact mulOk_r (by omega) (by omega) | exact mulOk_l (by omega) (by omega) | exact PD.divOk_of (by omega)) ?_); simp -failIfUnchanged -dsimp -implicitDefEqProofs only [↓PD.Wa, PD.Wb0, PD.Wb1, PD.Wb2, PD.Wb3, PD.Wb4, PD.Wb5, PD.lim, PD.smallI, List.getD_cons_zero, List.getD_cons_succ, List.flatten_cons, List.flatten_nil, PD.setMany, Int.toNat_natCast, List.getElem?_cons_zero, List.getElem?_cons_succ, List.set_cons_zero, List.set_cons_succ, List.length_cons, List.length_nil, List.length_map, List.length_append, List.length_reverse, List.length_replicate, List.length_range, List.nil_append, List.append_nil, List.cons_append, Nat.zero_add, Nat.add_zero, Bool.not_true, Bool.not_false, if_true, if_false, ite_true, ite_false, decide_true, decide_false, Bool.and_true, Bool.true_and, Bool.and_false, Bool.false_and, Option.toList_none, Option.toList_some, Option.bind_some, List.replicate_zero, List.replicate_succ, List.map_nil, List.map_cons, Nat.reduceSub, Nat.reduceAdd, Nat.reduceMul, Nat.reduceLeDiff, Nat.reduceLT, Nat.reduceEqDiff, Int.reduceLE, Int.reduceLT, Int.reduceNeg, Int.reduceMul, Int.reduceAdd, Int.reduceSub, Int.reducePow, Int.reduceToNat, Int.reduceEq, true_and, and_true, eq_self, Int.zero_add, Bool.false_eq_true, b13, x13_0, y13_1, x13_2, x13_3, x13_4, y13_5, x13_6, x13_7, y13_8, k13_9, k13_10, y13_11, x13_12, x13_13, y13_14, x13_15, y13_16, x13_17, x13_18, y13_19, k13_20, k13_21, y13_22, k13_23, k13_24, y13_25, k13_26, y13_27, x13_28, y13_29, x13_30, y13_31, k13_32, z1, z2, decide_eq_true hlt, zer_flat, e, ← List.map_append]))
        refine wp_su (k := 10) ⟨by omega, by omega⟩ ?_
        (simp -failIfUnchanged -dsimp -implicitDefEqProofs only [↓PD.Wa, PD.Wb0, PD.Wb1, PD.Wb2, PD.Wb3, PD.Wb4, PD.Wb5, PD.lim, PD.smallI, List.getD_cons_zero, List.getD_cons_succ, List.flatten_cons, List.flatten_nil, PD.setMany, Int.toNat_natCast, List.getElem?_cons_zero, List.getElem?_cons_succ, List.set_cons_zero, List.set_cons_succ, List.length_cons, List.length_nil, List.length_map, List.length_append, List.length_reverse, List.length_replicate, List.length_range, List.nil_append, List.append_nil, List.cons_append, Nat.zero_add, Nat.add_zero, Bool.not_true, Bool.not_false, if_true, if_false, ite_true, ite_false, decide_true, decide_false, Bool.and_true, Bool.true_and, Bool.and_false, Bool.false_and, Option.toList_none, Option.toList_some, Option.bind_some, List.replicate_zero, List.replicate_succ, List.map_nil, List.map_cons, Nat.reduceSub, Nat.reduceAdd, Nat.reduceMul, Nat.reduceLeDiff, Nat.reduceLT, Nat.reduceEqDiff, Int.reduceLE, Int.reduceLT, Int.reduceNeg, Int.reduceMul, Int.reduceAdd, Int.reduceSub, Int.reducePow, Int.reduceToNat, Int.reduceEq, true_and, and_true, eq_self, Int.zero_add, Bool.false_eq_true]; repeat ((refine wp_must (by first | (simp only [Bool.and_eq_true, decide_eq_true_eq, List.length_map, List.length_append, List.length_replicate, List.length_cons, List.length_nil]; omega) | exact mulOk_r (by omega) (by omega) | exact mulOk_l (by omega) (by omega) | exact PD.divOk_of (by omega)) ?_); simp -failIfUnchanged -dsimp -implicitDefEqProofs only [↓PD.Wa, PD.Wb0, PD.Wb1, PD.Wb2, PD.Wb3, PD.Wb4, PD.Wb5, PD.lim, PD.smallI, List.getD_cons_zero, List.getD_cons_succ, List.flatten_cons, List.flatten_nil, PD.setMany, Int.toNat_natCast, List.getElem?_cons_zero, List.getElem?_cons_succ, List.set_cons_zero, List.set_cons_succ, List.length_cons, List.length_nil, List.length_map, List.length_append, List.length_reverse, List.length_replicate, List.length_range, List.nil_append, List.append_nil, List.cons_append, Nat.zero_add, Nat.add_zero, Bool.not_true, Bool.not_false, if_true, if_false, ite_true, ite_false, decide_true, decide_false, Bool.and_true, Bool.true_and, Bool.and_false, Bool.false_and, Option.toList_none, Option.toList_some, Option.bind_some, List.replicate_zero, List.replicate_succ, List.map_nil, List.map_cons, Nat.reduceSub, Nat.reduceAdd, Nat.reduceMul, Nat.reduceLeDiff, Nat.reduceLT, Nat.reduceEqDiff, Int.reduceLE, Int.reduceLT, Int.reduceNeg, Int.reduceMul, Int.reduceAdd, Int.reduceSub, Int.reducePow, Int.reduceToNat, Int.reduceEq, true_and, and_true, eq_self, Int.zero_add, Bool.false_eq_true]))
        refine wp_dif (k := 10) (by omega) ?_
        (simp -failIfUnchanged -dsimp -implicitDefEqProofs only [↓PD.Wa, PD.Wb0, PD.Wb1, PD.Wb2, PD.Wb3, PD.Wb4, PD.Wb5, PD.lim, PD.smallI, List.getD_cons_zero, List.getD_cons_succ, List.flatten_cons, List.flatten_nil, PD.setMany, Int.toNat_natCast, List.getElem?_cons_zero, List.getElem?_cons_succ, List.set_cons_zero, List.set_cons_succ, List.length_cons, List.length_nil, List.length_map, List.length_append, List.length_reverse, List.length_replicate, List.length_range, List.nil_append, List.append_nil, List.cons_append, Nat.zero_add, Nat.add_zero, Bool.not_true, Bool.not_false, if_true, if_false, ite_true, ite_false, decide_true, decide_false, Bool.and_true, Bool.true_and, Bool.and_false, Bool.false_and, Option.toList_none, Option.toList_some, Option.bind_some, List.replicate_zero, List.replicate_succ, List.map_nil, List.map_cons, Nat.reduceSub, Nat.reduceAdd, Nat.reduceMul, Nat.reduceLeDiff, Nat.reduceLT, Nat.reduceEqDiff, Int.reduceLE, Int.reduceLT, Int.reduceNeg, Int.reduceMul, Int.reduceAdd, Int.reduceSub, Int.reducePow, Int.reduceToNat, Int.reduceEq, true_and, and_true, eq_self, Int.zero_add, Bool.false_eq_true]; repeat ((refine wp_must (by first | (simp only [Bool.and_eq_true, decide_eq_true_eq, List.length_map, List.length_append, List.length_replicate, List.length_cons, List.length_nil]; omega) | exact mulOk_r (by omega) (by omega) | exact mulOk_l (by omega) (by omega) | exact PD.divOk_of (by omega)) ?_); simp -failIfUnchanged -dsimp -implicitDefEqProofs only [↓PD.Wa, PD.Wb0, PD.Wb1, PD.Wb2, PD.Wb3, PD.Wb4, PD.Wb5, PD.lim, PD.smallI, List.getD_cons_zero, List.getD_cons_succ, List.flatten_cons, List.flatten_nil, PD.setMany, Int.toNat_natCast, List.getElem?_cons_zero, List.getElem?_cons_succ, List.set_cons_zero, List.set_cons_succ, List.length_cons, List.length_nil, List.length_map, List.length_append, List.length_reverse, List.length_replicate, List.length_range, List.nil_append, List.append_nil, List.cons_append, Nat.zero_add, Nat.add_zero, Bool.not_true, Bool.not_false, if_true, if_false, ite_true, ite_false, decide_true, decide_false, Bool.and_true, Bool.true_and, Bool.and_false, Bool.false_and, Option.toList_none, Option.toList_some, Option.bind_some, List.replicate_zero, List.replicate_succ, List.map_nil, List.map_cons, Nat.reduceSub, Nat.reduceAdd, Nat.reduceMul, Nat.reduceLeDiff, Nat.reduceLT, Nat.reduceEqDiff, Int.reduceLE, Int.reduceLT, Int.reduceNeg, Int.reduceMul, Int.reduceAdd, Int.reduceSub, Int.reducePow, Int.reduceToNat, Int.reduceEq, true_and, and_true, eq_self, Int.zero_add, Bool.false_eq_true]))
        refine wp_dif (k := 10) (by omega) ?_
        (simp -failIfUnchanged -dsimp -implicitDefEqProofs only [↓PD.Wa, PD.Wb0, PD.Wb1, PD.Wb2, PD.Wb3, PD.Wb4, PD.Wb5, PD.lim, PD.smallI, List.getD_cons_zero, List.getD_cons_succ, List.flatten_cons, List.flatten_nil, PD.setMany, Int.toNat_natCast, List.getElem?_cons_zero, List.getElem?_cons_succ, List.set_cons_zero, List.set_cons_succ, List.length_cons, List.length_nil, List.length_map, List.length_append, List.length_reverse, List.length_replicate, List.length_range, List.nil_append, List.append_nil, List.cons_append, Nat.zero_add, Nat.add_zero, Bool.not_true, Bool.not_false, if_true, if_false, ite_true, ite_false, decide_true, decide_false, Bool.and_true, Bool.true_and, Bool.and_false, Bool.false_and, Option.toList_none, Option.toList_some, Option.bind_some, List.replicate_zero, List.replicate_succ, List.map_nil, List.map_cons, Nat.reduceSub, Nat.reduceAdd, Nat.reduceMul, Nat.reduceLeDiff, Nat.reduceLT, Nat.reduceEqDiff, Int.reduceLE, Int.reduceLT, Int.reduceNeg, Int.reduceMul, Int.reduceAdd, Int.reduceSub, Int.reducePow, Int.reduceToNat, Int.reduceEq, true_and, and_true, eq_self, Int.zero_add, Bool.false_eq_true]; repeat ((refine wp_must (by first | (simp only [Bool.and_eq_true, decide_eq_true_eq, List.length_map, List.length_append, List.length_replicate, List.length_cons, List.length_nil]; omega) | exact mulOk_r (by omega) (by omega) | exact mulOk_l (by omega) (by omega) | exact PD.divOk_of (by omega)) ?_); simp -failIfUnchanged -dsimp -implicitDefEqProofs only [↓PD.Wa, PD.Wb0, PD.Wb1, PD.Wb2, PD.Wb3, PD.Wb4, PD.Wb5, PD.lim, PD.smallI, List.getD_cons_zero, List.getD_cons_succ, List.flatten_cons, List.flatten_nil, PD.setMany, Int.toNat_natCast, List.getElem?_cons_zero, List.getElem?_cons_succ, List.set_cons_zero, List.set_cons_succ, List.length_cons, List.length_nil, List.length_map, List.length_append, List.length_reverse, List.length_replicate, List.length_range, List.nil_append, List.append_nil, List.cons_append, Nat.zero_add, Nat.add_zero, Bool.not_true, Bool.not_false, if_true, if_false, ite_true, ite_false, decide_true, decide_false, Bool.and_true, Bool.true_and, Bool.and_false, Bool.false_and, Option.toList_none, Option.toList_some, Option.bind_some, List.replicate_zero, List.replicate_succ, List.map_nil, List.map_cons, Nat.reduceSub, Nat.reduceAdd, Nat.reduceMul, Nat.reduceLeDiff, Nat.reduceLT, Nat.reduceEqDiff, Int.reduceLE, Int.reduceLT, Int.reduceNeg, Int.reduceMul, Int.reduceAdd, Int.reduceSub, Int.reducePow, Int.reduceToNat, Int.reduceEq, true_and, and_true, eq_self, Int.zero_add, Bool.false_eq_true]))
        refine wp_dif (k := 10) (by omega) ?_
        (simp -failIfUnchanged -dsimp -implicitDefEqProofs only [↓PD.Wa, PD.Wb0, PD.Wb1, PD.Wb2, PD.Wb3, PD.Wb4, PD.Wb5, PD.lim, PD.smallI, List.getD_cons_zero, List.getD_cons_succ, List.flatten_cons, List.flatten_nil, PD.setMany, Int.toNat_natCast, List.getElem?_cons_zero, List.getElem?_cons_succ, List.set_cons_zero, List.set_cons_succ, List.length_cons, List.length_nil, List.length_map, List.length_append, List.length_reverse, List.length_replicate, List.length_range, List.nil_append, List.append_nil, List.cons_append, Nat.zero_add, Nat.add_zero, Bool.not_true, Bool.not_false, if_true, if_false, ite_true, ite_false, decide_true, decide_false, Bool.and_true, Bool.true_and, Bool.and_false, Bool.false_and, Option.toList_none, Option.toList_some, Option.bind_some, List.replicate_zero, List.replicate_succ, List.map_nil, List.map_cons, Nat.reduceSub, Nat.reduceAdd, Nat.reduceMul, Nat.reduceLeDiff, Nat.reduceLT, Nat.reduceEqDiff, Int.reduceLE, Int.reduceLT, Int.reduceNeg, Int.reduceMul, Int.reduceAdd, Int.reduceSub, Int.reducePow, Int.reduceToNat, Int.reduceEq, true_and, and_true, eq_self, Int.zero_add, Bool.false_eq_true]; repeat ((refine wp_must (by first | (simp only [Bool.and_eq_true, decide_eq_true_eq, List.length_map, List.length_append, List.length_replicate, List.length_cons, List.length_nil]; omega) | exact mulOk_r (by omega) (by omega) | exact mulOk_l (by omega) (by omega) | exact PD.divOk_of (by omega)) ?_); simp -failIfUnchanged -dsimp -implicitDefEqProofs only [↓PD.Wa, PD.Wb0, PD.Wb1, PD.Wb2, PD.Wb3, PD.Wb4, PD.Wb5, PD.lim, PD.smallI, List.getD_cons_zero, List.getD_cons_succ, List.flatten_cons, List.flatten_nil, PD.setMany, Int.toNat_natCast, List.getElem?_cons_zero, List.getElem?_cons_succ, List.set_cons_zero, List.set_cons_succ, List.length_cons, List.length_nil, List.length_map, List.length_append, List.length_reverse, List.length_replicate, List.length_range, List.nil_append, List.append_nil, List.cons_append, Nat.zero_add, Nat.add_zero, Bool.not_true, Bool.not_false, if_true, if_false, ite_true, ite_false, decide_true, decide_false, Bool.and_true, Bool.true_and, Bool.and_false, Bool.false_and, Option.toList_none, Option.toList_some, Option.bind_some, List.replicate_zero, List.replicate_succ, List.map_nil, List.map_cons, Nat.reduceSub, Nat.reduceAdd, Nat.reduceMul, Nat.reduceLeDiff, Nat.reduceLT, Nat.reduceEqDiff, Int.reduceLE, Int.reduceLT, Int.reduceNeg, Int.reduceMul, Int.reduceAdd, Int.reduceSub, Int.reducePow, Int.reduceToNat, Int.reduceEq, true_and, and_true, eq_self, Int.zero_add, Bool.false_eq_true]))
        refine wp_su (k := 10) ⟨by omega, by omega⟩ ?_
        rw [← dd]
        (simp -failIfUnchanged -dsimp -implicitDefEqProofs only [↓PD.Wa, PD.Wb0, PD.Wb1, PD.Wb2, PD.Wb3, PD.Wb4, PD.Wb5, PD.lim, PD.smallI, List.getD_cons_zero, List.getD_cons_succ, List.flatten_cons, List.flatten_nil, PD.setMany, Int.toNat_natCast, List.getElem?_cons_zero, List.getElem?_cons_succ, List.set_cons_zero, List.set_cons_succ, List.length_cons, List.length_nil, List.length_map, List.length_append, List.length_reverse, List.length_replicate, List.length_range, List.nil_append, List.append_nil, List.cons_append, Nat.zero_add, Nat.add_zero, Bool.not_true, Bool.not_false, if_true, if_false, ite_true, ite_false, decide_true, decide_false, Bool.and_true, Bool.true_and, Bool.and_false, Bool.false_and, Option.toList_none, Option.toList_some, Option.bind_some, List.replicate_zero, List.replicate_succ, List.map_nil, List.map_cons, Nat.reduceSub, Nat.reduceAdd, Nat.reduceMul, Nat.reduceLeDiff, Nat.reduceLT, Nat.reduceEqDiff, Int.reduceLE, Int.reduceLT, Int.reduceNeg, Int.reduceMul, Int.reduceAdd, Int.reduceSub, Int.reducePow, Int.reduceToNat, Int.reduceEq, true_and, and_true, eq_self, Int.zero_add, Bool.false_eq_true]; repeat ((refine wp_must (by first | (simp only [Bool.and_eq_true, decide_eq_true_eq, List.length_map, List.length_append, List.length_replicate, List.length_cons, List.length_nil]; omega) | exact mulOk_r (by omega) (by omega) | exact mulOk_l (by omega) (by omega) | exact PD.divOk_of (by omega)) ?_); simp -failIfUnchanged -dsimp -implicitDefEqProofs only [↓PD.Wa, PD.Wb0, PD.Wb1, PD.Wb2, PD.Wb3, PD.Wb4, PD.Wb5, PD.lim, PD.smallI, List.getD_cons_zero, List.getD_cons_succ, List.flatten_cons, List.flatten_nil, PD.setMany, Int.toNat_natCast, List.getElem?_cons_zero, List.getElem?_cons_succ, List.set_cons_zero, List.set_cons_succ, List.length_cons, List.length_nil, List.length_map, List.length_append, List.length_reverse, List.length_replicate, List.length_range, List.nil_append, List.append_nil, List.cons_append, Nat.zero_add, Nat.add_zero, Bool.not_true, Bool.not_false, if_true, if_false, ite_true, ite_false, decide_true, decide_false, Bool.and_true, Bool.true_and, Bool.and_false, Bool.false_and, Option.toList_none, Option.toList_some, Option.bind_some, List.replicate_zero, List.replicate_succ, List.map_nil, List.map_cons, Nat.reduceSub, Nat.reduceAdd, Nat.reduceMul, Nat.reduceLeDiff, Nat.reduceLT, Nat.reduceEqDiff, Int.reduceLE, Int.reduceLT, Int.reduceNeg, Int.reduceMul, Int.reduceAdd, Int.reduceSub, Int.reducePow, Int.reduceToNat, Int.reduceEq, true_and, and_true, eq_self, Int.zero_add, Bool.false_eq_true]))
        exact ⟨[_, _, _, _, _], rfl, _, _, _, _, _, d3, rfl, rfl, D3.mono (by push_cast; omega)⟩
      · skip
        have pl : (a ++ List.replicate (b.length - a.length) 0).length ≤ 60 := by simp; omega
        have e : ((b.length : Int) - (a.length : Int)).toNat = b.length - a.length := by omega
        have ld := difR_le b
        have ld2 := difR_le (a ++ List.replicate (b.length - a.length) 0)
        have lad := addR_len a b
        have dd := difR_add z.2 (show a.length ≤ b.length by omega)
        (simp -failIfUnchanged -dsimp -implicitDefEqProofs only [↓PD.Wa, PD.Wb0, PD.Wb1, PD.Wb2, PD.Wb3, PD.Wb4, PD.Wb5, PD.lim, PD.smallI, List.getD_cons_zero, List.getD_cons_succ, List.flatten_cons, List.flatten_nil, PD.setMany, Int.toNat_natCast, List.getElem?_cons_zero, List.getElem?_cons_succ, List.set_cons_zero, List.set_cons_succ, List.length_cons, List.length_nil, List.length_map, List.length_append, List.length_reverse, List.length_replicate, List.length_range, List.nil_append, List.append_nil, List.cons_append, Nat.zero_add, Nat.add_zero, Bool.not_true, Bool.not_false, if_true, if_false, ite_true, ite_false, decide_true, decide_false, Bool.and_true, Bool.true_and, Bool.and_false, Bool.false_and, Option.toList_none, Option.toList_some, Option.bind_some, List.replicate_zero, List.replicate_succ, List.map_nil, List.map_cons, Nat.reduceSub, Nat.reduceAdd, Nat.reduceMul, Nat.reduceLeDiff, Nat.reduceLT, Nat.reduceEqDiff, Int.reduceLE, Int.reduceLT, Int.reduceNeg, Int.reduceMul, Int.reduceAdd, Int.reduceSub, Int.reducePow, Int.reduceToNat, Int.reduceEq, true_and, and_true, eq_self, Int.zero_add, Bool.false_eq_true, b13, x13_0, y13_1, x13_2, x13_3, x13_4, y13_5, x13_6, x13_7, y13_8, k13_9, k13_10, y13_11, x13_12, x13_13, y13_14, x13_15, y13_16, x13_17, x13_18, y13_19, k13_20, k13_21, y13_22, k13_23, k13_24, y13_25, k13_26, y13_27, x13_28, y13_29, x13_30, y13_31, k13_32, z1, z2, decide_eq_false hlt, zer_flat, e, ← List.map_append]; repeat ((refine wp_must (by first | (simp only [Bool.and_eq_true, decide_eq_true_eq, List.length_map, List.length_append, List.length_replicate, List.length_cons, List.length_nil]; omega) | exact mulOk_r (by omega) (by omega) | exact mulOk_l (by omega) (by omega) | exact PD.divOk_of (by omega)) ?_); simp -failIfUnchanged -dsimp -implicitDefEqProofs only [↓PD.Wa, PD.Wb0, PD.Wb1, PD.Wb2, PD.Wb3, PD.Wb4, PD.Wb5, PD.lim, PD.smallI, List.getD_cons_zero, List.getD_cons_succ, List.flatten_cons, List.flatten_nil, PD.setMany, Int.toNat_natCast, List.getElem?_cons_zero, List.getElem?_cons_succ, List.set_cons_zero, List.set_cons_succ, List.length_cons, List.length_nil, List.length_map, List.length_append, List.length_reverse, List.length_replicate, List.length_range, List.nil_append, List.append_nil, List.cons_append, Nat.zero_add, Nat.add_zero, Bool.not_true, Bool.not_false, if_true, if_false, ite_true, ite_false, decide_true, decide_false, Bool.and_true, Bool.true_and, Bool.and_false, Bool.false_and, Option.toList_none, Option.toList_some, Option.bind_some, List.replicate_zero, List.replicate_succ, List.map_nil, List.map_cons, Nat.reduceSub, Nat.reduceAdd, Nat.reduceMul, Nat.reduceLeDiff, Nat.reduceLT, Nat.reduceEqDiff, Int.reduceLE, Int.reduceLT, Int.reduceNeg, Int.reduceMul, Int.reduceAdd, Int.reduceSub, Int.reducePow, Int.reduceToNat, Int.reduceEq, true_and, and_true, eq_self, Int.zero_add, Bool.false_eq_true, b13, x13_0, y13_1, x13_2, x13_3, x13_4, y13_5, x13_6, x13_7, y13_8, k13_9, k13_10, y13_11, x13_12, x13_13, y13_14, x13_15, y13_16, x13_17, x13_18, y13_19, k13_20, k13_21, y13_22, k13_23, k13_24, y13_25, k13_26, y13_27, x13_28, y13_29, x13_30, y13_31, k13_32, z1, z2, decide_eq_false hlt, zer_flat, e, ← List.map_append]))
        refine wp_su (k := 10) ⟨by omega, by omega⟩ ?_
        (simp -failIfUnchanged -dsimp -implicitDefEqProofs only [↓PD.Wa, PD.Wb0, PD.Wb1, PD.Wb2, PD.Wb3, PD.Wb4, PD.Wb5, PD.lim, PD.smallI, List.getD_cons_zero, List.getD_cons_succ, List.flatten_cons, List.flatten_nil, PD.setMany, Int.toNat_natCast, List.getElem?_cons_zero, List.getElem?_cons_succ, List.set_cons_zero, List.set_cons_succ, List.length_cons, List.length_nil, List.length_map, List.length_append, List.length_reverse, List.length_replicate, List.length_range, List.nil_append, List.append_nil, List.cons_append, Nat.zero_add, Nat.add_zero, Bool.not_true, Bool.not_false, if_true, if_false, ite_true, ite_false, decide_true, decide_false, Bool.and_true, Bool.true_and, Bool.and_false, Bool.false_and, Option.toList_none, Option.toList_some, Option.bind_some, List.replicate_zero, List.replicate_succ, List.map_nil, List.map_cons, Nat.reduceSub, Nat.reduceAdd, Nat.reduceMul, Nat.reduceLeDiff, Nat.reduceLT, Nat.reduceEqDiff, Int.reduceLE, Int.reduceLT, Int.reduceNeg, Int.reduceMul, Int.reduceAdd, Int.reduceSub, Int.reducePow, Int.reduceToNat, Int.reduceEq, true_and, and_true, eq_self, Int.zero_add, Bool.false_eq_true]; repeat ((refine wp_must (by first | (simp only [Bool.and_eq_true, decide_eq_true_eq, List.length_map, List.length_append, List.length_replicate, List.length_cons, List.length_nil]; omega) | exact mulOk_r (by omega) (by omega) | exact mulOk_l (by omega) (by omega) | exact PD.divOk_of (by omega)) ?_); simp -failIfUnchanged -dsimp -implicitDefEqProofs only [↓PD.Wa, PD.Wb0, PD.Wb1, PD.Wb2, PD.Wb3, PD.Wb4, PD.Wb5, PD.lim, PD.smallI, List.getD_cons_zero, List.getD_cons_succ, List.flatten_cons, List.flatten_nil, PD.setMany, Int.toNat_natCast, List.getElem?_cons_zero, List.getElem?_cons_succ, List.set_cons_zero, List.set_cons_succ, List.length_cons, List.length_nil, List.length_map, List.length_append, List.length_reverse, List.length_replicate, List.length_range, List.nil_append, List.append_nil, List.cons_append, Nat.zero_add, Nat.add_zero, Bool.not_true, Bool.not_false, if_true, if_false, ite_true, ite_false, decide_true, decide_false, Bool.and_true, Bool.true_and, Bool.and_false, Bool.false_and, Option.toList_none, Option.toList_some, Option.bind_some, List.replicate_zero, List.replicate_succ, List.map_nil, List.map_cons, Nat.reduceSub, Nat.reduceAdd, Nat.reduceMul, Nat.reduceLeDiff, Nat.reduceLT, Nat.reduceEqDiff, Int.reduceLE, Int.reduceLT, Int.reduceNeg, Int.reduceMul, Int.reduceAdd, Int.reduceSub, Int.reducePow, Int.reduceToNat, Int.reduceEq, true_and, and_true, eq_self, Int.zero_add, Bool.false_eq_true]))
        refine wp_dif (k := 10) (by omega) ?_
        (simp -failIfUnchanged -dsimp -implicitDefEqProofs only [↓PD.Wa, PD.Wb0, PD.Wb1, PD.Wb2, PD.Wb3, PD.Wb4, PD.Wb5, PD.lim, PD.smallI, List.getD_cons_zero, List.getD_cons_succ, List.flatten_cons, List.flatten_nil, PD.setMany, Int.toNat_natCast, List.getElem?_cons_zero, List.getElem?_cons_succ, List.set_cons_zero, List.set_cons_succ, List.length_cons, List.length_nil, List.length_map, List.length_append, List.length_reverse, List.length_replicate, List.length_range, List.nil_append, List.append_nil, List.cons_append, Nat.zero_add, Nat.add_zero, Bool.not_true, Bool.not_false, if_true, if_false, ite_true, ite_false, decide_true, decide_false, Bool.and_true, Bool.true_and, Bool.and_false, Bool.false_and, Option.toList_none, Option.toList_some, Option.bind_some, List.replicate_zero, List.replicate_succ, List.map_nil, List.map_cons, Nat.reduceSub, Nat.reduceAdd, Nat.reduceMul, Nat.reduceLeDiff, Nat.reduceLT, Nat.reduceEqDiff, Int.reduceLE, Int.reduceLT, Int.reduceNeg, Int.reduceMul, Int.reduceAdd, Int.reduceSub, Int.reducePow, Int.reduceToNat, Int.reduceEq, true_and, and_true, eq_self, Int.zero_add, Bool.false_eq_true]; repeat ((refine wp_must (by first | (simp only [Bool.and_eq_true, decide_eq_true_eq, List.length_map, List.length_append, List.length_replicate, List.length_cons, List.length_nil]; omega) | exact mulOk_r (by omega) (by omega) | exact mulOk_l (by omega) (by omega) | exact PD.divOk_of (by omega)) ?_); simp -failIfUnchanged -dsimp -implicitDefEqProofs only [↓PD.Wa, PD.Wb0, PD.Wb1, PD.Wb2, PD.Wb3, PD.Wb4, PD.Wb5, PD.lim, PD.smallI, List.getD_cons_zero, List.getD_cons_succ, List.flatten_cons, List.flatten_nil, PD.setMany, Int.toNat_natCast, List.getElem?_cons_zero, List.getElem?_cons_succ, List.set_cons_zero, List.set_cons_succ, List.length_cons, List.length_nil, List.length_map, List.length_append, List.length_reverse, List.length_replicate, List.length_range, List.nil_append, List.append_nil, List.cons_append, Nat.zero_add, Nat.add_zero, Bool.not_true, Bool.not_false, if_true, if_false, ite_true, ite_false, decide_true, decide_false, Bool.and_true, Bool.true_and, Bool.and_false, Bool.false_and, Option.toList_none, Option.toList_some, Option.bind_some, List.replicate_zero, List.replicate_succ, List.map_nil, List.map_cons, Nat.reduceSub, Nat.reduceAdd, Nat.reduceMul, Nat.reduceLeDiff, Nat.reduceLT, Nat.reduceEqDiff, Int.reduceLE, Int.reduceLT, Int.reduceNeg, Int.reduceMul, Int.reduceAdd, Int.reduceSub, Int.reducePow, Int.reduceToNat, Int.reduceEq, true_and, and_true, eq_self, Int.zero_add, Bool.false_eq_true]))
        refine wp_dif (k := 10) (by omega) ?_
        (simp -failIfUnchanged -dsimp -implicitDefEqProofs only [↓PD.Wa, PD.Wb0, PD.Wb1, PD.Wb2, PD.Wb3, PD.Wb4, PD.Wb5, PD.lim, PD.smallI, List.getD_cons_zero, List.getD_cons_succ, List.flatten_cons, List.flatten_nil, PD.setMany, Int.toNat_natCast, List.getElem?_cons_zero, List.getElem?_cons_succ, List.set_cons_zero, List.set_cons_succ, List.length_cons, List.length_nil, List.length_map, List.length_append, List.length_reverse, List.length_replicate, List.length_range, List.nil_append, List.append_nil, List.cons_append, Nat.zero_add, Nat.add_zero, Bool.not_true, Bool.not_false, if_true, if_false, ite_true, ite_false, decide_true, decide_false, Bool.and_true, Bool.true_and, Bool.and_false, Bool.false_and, Option.toList_none, Option.toList_some, Option.bind_some, List.replicate_zero, List.replicate_succ, List.map_nil, List.map_cons, Nat.reduceSub, Nat.reduceAdd, Nat.reduceMul, Nat.reduceLeDiff, Nat.reduceLT, Nat.reduceEqDiff, Int.reduceLE, Int.reduceLT, Int.reduceNeg, Int.reduceMul, Int.reduceAdd, Int.reduceSub, Int.reducePow, Int.reduceToNat, Int.reduceEq, true_and, and_true, eq_self, Int.zero_add, Bool.false_eq_true]; repeat ((refine wp_must (by first | (simp only [Bool.and_eq_true, decide_eq_true_eq, List.length_map, List.length_append, List.length_replicate, List.length_cons, List.length_nil]; omega) | exact mulOk_r (by omega) (by omega) | exact mulOk_l (by omega) (by omega) | exact PD.divOk_of (by omega)) ?_); simp -failIfUnchanged -dsimp -implicitDefEqProofs only [↓PD.Wa, PD.Wb0, PD.Wb1, PD.Wb2, PD.Wb3, PD.Wb4, PD.Wb5, PD.lim, PD.smallI, List.getD_cons_zero, List.getD_cons_succ, List.flatten_cons, List.flatten_nil, PD.setMany, Int.toNat_natCast, List.getElem?_cons_zero, List.getElem?_cons_succ, List.set_cons_zero, List.set_cons_succ, List.length_cons, List.length_nil, List.length_map, List.length_append, List.length_reverse, List.length_replicate, List.length_range, List.nil_append, List.append_nil, List.cons_append, Nat.zero_add, Nat.add_zero, Bool.not_true, Bool.not_false, if_true, if_false, ite_true, ite_false, decide_true, decide_false, Bool.and_true, Bool.true_and, Bool.and_false, Bool.false_and, Option.toList_none, Option.toList_some, Option.bind_some, List.replicate_zero, List.replicate_succ, List.map_nil, List.map_cons, Nat.reduceSub, Nat.reduceAdd, Nat.reduceMul, Nat.reduceLeDiff, Nat.reduceLT, Nat.reduceEqDiff, Int.reduceLE, Int.reduceLT, Int.reduceNeg, Int.reduceMul, Int.reduceAdd, Int.reduceSub, Int.reducePow, Int.reduceToNat, Int.reduceEq, true_and, and_true, eq_self, Int.zero_add, Bool.false_eq_true]))
        refine wp_dif (k := 10) (by omega) ?_
        (simp -failIfUnchanged -dsimp -implicitDefEqProofs only [↓PD.Wa, PD.Wb0, PD.Wb1, PD.Wb2, PD.Wb3, PD.Wb4, PD.Wb5, PD.lim, PD.smallI, List.getD_cons_zero, List.getD_cons_succ, List.flatten_cons, List.flatten_nil, PD.setMany, Int.toNat_natCast, List.getElem?_cons_zero, List.getElem?_cons_succ, List.set_cons_zero, List.set_cons_succ, List.length_cons, List.length_nil, List.length_map, List.length_append, List.length_reverse, List.length_replicate, List.length_range, List.nil_append, List.append_nil, List.cons_append, Nat.zero_add, Nat.add_zero, Bool.not_true, Bool.not_false, if_true, if_false, ite_true, ite_false, decide_true, decide_false, Bool.and_true, Bool.true_and, Bool.and_false, Bool.false_and, Option.toList_none, Option.toList_some, Option.bind_some, List.replicate_zero, List.replicate_succ, List.map_nil, List.map_cons, Nat.reduceSub, Nat.reduceAdd, Nat.reduceMul, Nat.reduceLeDiff, Nat.reduceLT, Nat.reduceEqDiff, Int.reduceLE, Int.reduceLT, Int.reduceNeg, Int.reduceMul, Int.reduceAdd, Int.reduceSub, Int.reducePow, Int.reduceToNat, Int.reduceEq, true_and, and_true, eq_self, Int.zero_add, Bool.false_eq_true]; repeat ((refine wp_must (by first | (simp only [Bool.and_eq_true, decide_eq_true_eq, List.length_map, List.length_append, List.length_replicate, List.length_cons, List.length_nil]; omega) | exact mulOk_r (by omega) (by omega) | exact mulOk_l (by omega) (by omega) | exact PD.divOk_of (by omega)) ?_); simp -failIfUnchanged -dsimp -implicitDefEqProofs only [↓PD.Wa, PD.Wb0, PD.Wb1, PD.Wb2, PD.Wb3, PD.Wb4, PD.Wb5, PD.lim, PD.smallI, List.getD_cons_zero, List.getD_cons_succ, List.flatten_cons, List.flatten_nil, PD.setMany, Int.toNat_natCast, List.getElem?_cons_zero, List.getElem?_cons_succ, List.set_cons_zero, List.set_cons_succ, List.length_cons, List.length_nil, List.length_map, List.length_append, List.length_reverse, List.length_replicate, List.length_range, List.nil_append, List.append_nil, List.cons_append, Nat.zero_add, Nat.add_zero, Bool.not_true, Bool.not_false, if_true, if_false, ite_true, ite_false, decide_true, decide_false, Bool.and_true, Bool.true_and, Bool.and_false, Bool.false_and, Option.toList_none, Option.toList_some, Option.bind_some, List.replicate_zero, List.replicate_succ, List.map_nil, List.map_cons, Nat.reduceSub, Nat.reduceAdd, Nat.reduceMul, Nat.reduceLeDiff, Nat.reduceLT, Nat.reduceEqDiff, Int.reduceLE, Int.reduceLT, Int.reduceNeg, Int.reduceMul, Int.reduceAdd, Int.reduceSub, Int.reducePow, Int.reduceToNat, Int.reduceEq, true_and, and_true, eq_self, Int.zero_add, Bool.false_eq_true]))
        refine wp_su (k := 10) ⟨by omega, by omega⟩ ?_
        rw [← dd, addR_comm b a]
        (simp -failIfUnchanged -dsimp -implicitDefEqProofs only [↓PD.Wa, PD.Wb0, PD.Wb1, PD.Wb2, PD.Wb3, PD.Wb4, PD.Wb5, PD.lim, PD.smallI, List.getD_cons_zero, List.getD_cons_succ, List.flatten_cons, List.flatten_nil, PD.setMany, Int.toNat_natCast, List.getElem?_cons_zero, List.getElem?_cons_succ, List.set_cons_zero, List.set_cons_succ, List.length_cons, List.length_nil, List.length_map, List.length_append, List.length_reverse, List.length_replicate, List.length_range, List.nil_append, List.append_nil, List.cons_append, Nat.zero_add, Nat.add_zero, Bool.not_true, Bool.not_false, if_true, if_false, ite_true, ite_false, decide_true, decide_false, Bool.and_true, Bool.true_and, Bool.and_false, Bool.false_and, Option.toList_none, Option.toList_some, Option.bind_some, List.replicate_zero, List.replicate_succ, List.map_nil, List.map_cons, Nat.reduceSub, Nat.reduceAdd, Nat.reduceMul, Nat.reduceLeDiff, Nat.reduceLT, Nat.reduceEqDiff, Int.reduceLE, Int.reduceLT, Int.reduceNeg, Int.reduceMul, Int.reduceAdd, Int.reduceSub, Int.reducePow, Int.reduceToNat, Int.reduceEq, true_and, and_true, eq_self, Int.zero_add, Bool.false_eq_true]; repeat ((refine wp_must (by first | (simp only [Bool.and_eq_true, decide_eq_true_eq, List.length_map, List.length_append, List.length_replicate, List.length_cons, List.length_nil]; omega) | exact mulOk_r (by omega) (by omega) | exact mulOk_l (by omega) (by omega) | exact PD.divOk_of (by omega)) ?_); simp -failIfUnchanged -dsimp -implicitDefEqProofs only [↓PD.Wa, PD.Wb0, PD.Wb1, PD.Wb2, PD.Wb3, PD.Wb4, PD.Wb5, PD.lim, PD.smallI, List.getD_cons_zero, List.getD_cons_succ, List.flatten_cons, List.flatten_nil, PD.setMany, Int.toNat_natCast, List.getElem?_cons_zero, List.getElem?_cons_succ, List.set_cons_zero, List.set_cons_succ, List.length_cons, List.length_nil, List.length_map, List.length_append, List.length_reverse, List.length_replicate, List.length_range, List.nil_append, List.append_nil, List.cons_append, Nat.zero_add, Nat.add_zero, Bool.not_true, Bool.not_false, if_true, if_false, ite_true, ite_false, decide_true, decide_false, Bool.and_true, Bool.true_and, Bool.and_false, Bool.false_and, Option.toList_none, Option.toList_some, Option.bind_some, List.replicate_zero, List.replicate_succ, List.map_nil, List.map_cons, Nat.reduceSub, Nat.reduceAdd, Nat.reduceMul, Nat.reduceLeDiff, Nat.reduceLT, Nat.reduceEqDiff, Int.reduceLE, Int.reduceLT, Int.reduceNeg, Int.reduceMul, Int.reduceAdd, Int.reduceSub, Int.reducePow, Int.reduceToNat, Int.reduceEq, true_and, and_true, eq_self, Int.zero_add, Bool.false_eq_true]))
        exact ⟨[_, _, _, _, _], rfl, _, _, _, _, _, d3, rfl, rfl, D3.mono (by push_cast; omega)⟩
    · by_cases z1 : a = []
      · (simp -failIfUnchanged -dsimp -implicitDefEqProofs only [↓PD.Wa, PD.Wb0, PD.Wb1, PD.Wb2, PD.Wb3, PD.Wb4, PD.Wb5, PD.lim, PD.smallI, List.getD_cons_zero, List.getD_cons_succ, List.flatten_cons, List.flatten_nil, PD.setMany, Int.toNat_natCast, List.getElem?_cons_zero, List.getElem?_cons_succ, List.set_cons_zero, List.set_cons_succ, List.length_cons, List.length_nil, List.length_map, List.length_append, List.length_reverse, List.length_replicate, List.length_range, List.nil_append, List.append_nil, List.cons_append, Nat.zero_add, Nat.add_zero, Bool.not_true, Bool.not_false, if_true, if_false, ite_true, ite_false, decide_true, decide_false, Bool.and_true, Bool.true_and, Bool.and_false, Bool.false_and, Option.toList_none, Option.toList_some, Option.bind_some, List.replicate_zero, List.replicate_succ, List.map_nil, List.map_cons, Nat.reduceSub, Nat.reduceAdd, Nat.reduceMul, Nat.reduceLeDiff, Nat.reduceLT, Nat.reduceEqDiff, Int.reduceLE, Int.reduceLT, Int.reduceNeg, Int.reduceMul, Int.reduceAdd, Int.reduceSub, Int.reducePow, Int.reduceToNat, Int.reduceEq, true_and, and_true, eq_self, Int.zero_add, Bool.false_eq_true, b13, x13_0, y13_1, x13_2, x13_3, x13_4, y13_5, x13_6, x13_7, y13_8, k13_9, k13_10, y13_11, x13_12, x13_13, y13_14, x13_15, y13_16, x13_17, x13_18, y13_19, k13_20, k13_21, y13_22, k13_23, k13_24, y13_25, k13_26, y13_27, x13_28, y13_29, x13_30, y13_31, k13_32, z1]; repeat ((refine wp_must (by first | (simp only [Bool.and_eq_true, decide_eq_true_eq, List.length_map, List.length_append, List.length_replicate, List.length_cons, List.length_nil]; omega) | exact mulOk_r (by omega) (by omega) | exact mulOk_l (by omega) (by omega) | exact PD.divOk_of (by omega)) ?_); simp -failIfUnchanged -dsimp -implicitDefEqProofs only [↓PD.Wa, PD.Wb0, PD.Wb1, PD.Wb2, PD.Wb3, PD.Wb4, PD.Wb5, PD.lim, PD.smallI, List.getD_cons_zero, List.getD_cons_succ, List.flatten_cons, List.flatten_nil, PD.setMany, Int.toNat_natCast, List.getElem?_cons_zero, List.getElem?_cons_succ, List.set_cons_zero, List.set_cons_succ, List.length_cons, List.length_nil, List.length_map, List.length_append, List.length_reverse, List.length_replicate, List.length_range, List.nil_append, List.append_nil, List.cons_append, Nat.zero_add, Nat.add_zero, Bool.not_true, Bool.not_false, if_true, if_false, ite_true, ite_false, decide_true, decide_false, Bool.and_true, Bool.true_and, Bool.and_false, Bool.false_and, Option.toList_none, Option.toList_some, Option.bind_some, List.replicate_zero, List.replicate_succ, List.map_nil, List.map_cons, Nat.reduceSub, Nat.reduceAdd, Nat.reduceMul, Nat.reduceLeDiff, Nat.reduceLT, Nat.reduceEqDiff, Int.reduceLE, Int.reduceLT, Int.reduceNeg, Int.reduceMul, Int.reduceAdd, Int.reduceSub, Int.reducePow, Int.reduceToNat, Int.reduceEq, true_and, and_true, eq_self, Int.zero_add, Bool.false_eq_true, b13, x13_0, y13_1, x13_2, x13_3, x13_4, y13_5, x13_6, x13_7, y13_8, k13_9, k13_10, y13_11, x13_12, x13_13, y13_14, x13_15, y13_16, x13_17, x13_18, y13_19, k13_20, k13_21, y13_22, k13_23, k13_24, y13_25, k13_26, y13_27, x13_28, y13_29, x13_30, y13_31, k13_32, z1]))
        exact ⟨[_, _, _, _, _], rfl, _, _, _, _, _, d3, rfl, rfl, D3.mono (by push_cast; omega)⟩
      · have z2 : b = [] := Classical.byContradiction fun q => z ⟨z1, q⟩
        (simp -failIfUnchanged -dsimp -implicitDefEqProofs only [↓PD.Wa, PD.Wb0, PD.Wb1, PD.Wb2, PD.Wb3, PD.Wb4, PD.Wb5, PD.lim, PD.smallI, List.getD_cons_zero, List.getD_cons_succ, List.flatten_cons, List.flatten_nil, PD.setMany, Int.toNat_natCast, List.getElem?_cons_zero, List.getElem?_cons_succ, List.set_cons_zero, List.set_cons_succ, List.length_cons, List.length_nil, List.length_map, List.length_append, List.length_reverse, List.length_replicate, List.length_range, List.nil_append, List.append_nil, List.cons_append, Nat.zero_add, Nat.add_zero, Bool.not_true, Bool.not_false, if_true, if_false, ite_true, ite_false, decide_true, decide_false, Bool.and_true, Bool.true_and, Bool.and_false, Bool.false_and, Option.toList_none, Option.toList_some, Option.bind_some, List.replicate_zero, List.replicate_succ, List.map_nil, List.map_cons, Nat.reduceSub, Nat.reduceAdd, Nat.reduceMul, Nat.reduceLeDiff, Nat.reduceLT, Nat.reduceEqDiff, Int.reduceLE, Int.reduceLT, Int.reduceNeg, Int.reduceMul, Int.reduceAdd, Int.reduceSub, Int.reducePow, Int.reduceToNat, Int.reduceEq, true_and, and_true, eq_self, Int.zero_add, Bool.false_eq_true, b13, x13_0, y13_1, x13_2, x13_3, x13_4, y13_5, x13_6, x13_7, y13_8, k13_9, k13_10, y13_11, x13_12, x13_13, y13_14, x13_15, y13_16, x13_17, x13_18, y13_19, k13_20, k13_21, y13_22, k13_23, k13_24, y13_25, k13_26, y13_27, x13_28, y13_29, x13_30, y13_31, k13_32, z1, z2]; repeat ((refine wp_must (by first | (simp only [Bool.and_eq_true, decide_eq_true_eq, List.length_map, List.length_append, List.length_replicate, List.length_cons, List.length_nil]; omega) | exact mulOk_r (by omega) (by omega) | exact mulOk_l (by omega) (by omega) | exact PD.divOk_of (by omega)) ?_); simp -failIfUnchanged -dsimp -implicitDefEqProofs only [↓PD.Wa, PD.Wb0, PD.Wb1, PD.Wb2, PD.Wb3, PD.Wb4, PD.Wb5, PD.lim, PD.smallI, List.getD_cons_zero, List.getD_cons_succ, List.flatten_cons, List.flatten_nil, PD.setMany, Int.toNat_natCast, List.getElem?_cons_zero, List.getElem?_cons_succ, List.set_cons_zero, List.set_cons_succ, List.length_cons, List.length_nil, List.length_map, List.length_append, List.length_reverse, List.length_replicate, List.length_range, List.nil_append, List.append_nil, List.cons_append, Nat.zero_add, Nat.add_zero, Bool.not_true, Bool.not_false, if_true, if_false, ite_true, ite_false, decide_true, decide_false, Bool.and_true, Bool.true_and, Bool.and_false, Bool.false_and, Option.toList_none, Option.toList_some, Option.bind_some, List.replicate_zero, List.replicate_succ, List.map_nil, List.map_cons, Nat.reduceSub, Nat.reduceAdd, Nat.reduceMul, Nat.reduceLeDiff, Nat.reduceLT, Nat.reduceEqDiff, Int.reduceLE, Int.reduceLT, Int.reduceNeg, Int.reduceMul, Int.reduceAdd, Int.reduceSub, Int.reducePow, Int.reduceToNat, Int.reduceEq, true_and, and_true, eq_self, Int.zero_add, Bool.false_eq_true, b13, x13_0, y13_1, x13_2, x13_3, x13_4, y13_5, x13_6, x13_7, y13_8, k13_9, k13_10, y13_11, x13_12, x13_13, y13_14, x13_15, y13_16, x13_17, x13_18, y13_19, k13_20, k13_21, y13_22, k13_23, k13_24, y13_25, k13_26, y13_27, x13_28, y13_29, x13_30, y13_31, k13_32, z1, z2]))
        exact ⟨[_, _, _, _, _], rfl, _, _, _, _, _, d3, rfl, rfl, D3.mono (by push_cast; omega)⟩
  · rintro vs s ⟨_, _, _, _, _, d, rfl, rfl, DD⟩
    (simp -failIfUnchanged -dsimp -implicitDefEqProofs only [↓PD.Wa, PD.Wb0, PD.Wb1, PD.Wb2, PD.Wb3, PD.Wb4, PD.Wb5, PD.lim, PD.smallI, List.getD_cons_zero, List.getD_cons_succ, List.flatten_cons, List.flatten_nil, PD.setMany, Int.toNat_natCast, List.getElem?_cons_zero, List.getElem?_cons_succ, List.set_cons_zero, List.set_cons_succ, List.length_cons, List.length_nil, List.length_map, List.length_append, List.length_reverse, List.length_replicate, List.length_range, List.nil_append, List.append_nil, List.cons_append, Nat.zero_add, Nat.add_zero, Bool.not_true, Bool.not_false, if_true, if_false, ite_true, ite_false, decide_true, decide_false, Bool.and_true, Bool.true_and, Bool.and_false, Bool.false_and, Option.toList_none, Option.toList_some, Option.bind_some, List.replicate_zero, List.replicate_succ, List.map_nil, List.map_cons, Nat.reduceSub, Nat.reduceAdd, Nat.reduceMul, Nat.reduceLeDiff, Nat.reduceLT, Nat.reduceEqDiff, Int.reduceLE, Int.reduceLT, Int.reduceNeg, Int.reduceMul, Int.reduceAdd, Int.reduceSub, Int.reducePow, Int.reduceToNat, Int.reduceEq, true_and, and_true, eq_self, Int.zero_add, Bool.false_eq_true]; repeat ((refine wp_must (by first | (simp only [Bool.and_eq_true, decide_eq_true_eq, List.length_map, List.length_append, List.length_replicate, List.length_cons, List.length_nil]; omega) | exact mulOk_r (by omega) (by omega) | exact mulOk_l (by omega) (by omega) | exact PD.divOk_of (by omega)) ?_); simp -failIfUnchanged -dsimp -implicitDefEqProofs only [↓PD.Wa, PD.Wb0, PD.Wb1, PD.Wb2, PD.Wb3, PD.Wb4, PD.Wb5, PD.lim, PD.smallI, List.getD_cons_zero, List.getD_cons_succ, List.flatten_cons, List.flatten_nil, PD.setMany, Int.toNat_natCast, List.getElem?_cons_zero, List.getElem?_cons_succ, List.set_cons_zero, List.set_cons_succ, List.length_cons, List.length_nil, List.length_map, List.length_append, List.length_reverse, List.length_replicate, List.length_range, List.nil_append, List.append_nil, List.cons_append, Nat.zero_add, Nat.add_zero, Bool.not_true, Bool.not_false, if_true, if_false, ite_true, ite_false, decide_true, decide_false, Bool.and_true, Bool.true_and, Bool.and_false, Bool.false_and, Option.toList_none, Option.toList_some, Option.bind_some, List.replicate_zero, List.replicate_succ, List.map_nil, List.map_cons, Nat.reduceSub, Nat.reduceAdd, Nat.reduceMul, Nat.reduceLeDiff, Nat.reduceLT, Nat.reduceEqDiff, Int.reduceLE, Int.reduceLT, Int.reduceNeg, Int.reduceMul, Int.reduceAdd, Int.reduceSub, Int.reducePow, Int.reduceToNat, Int.reduceEq, true_and, and_true, eq_self, Int.zero_add, Bool.false_eq_true]))
    refine wp_compm (fun l : List Int => .tup (l.map D.int)) (fun l => .int (trn (sgs (difR l)))) hand rfl rfl (fun l hl => ?_) ?_
    · have ll : l.length ≤ 6 := by
        simp only [hand, List.mem_cons, List.not_mem_nil, or_false] at hl
        rcases hl with rfl | rfl | rfl | rfl | rfl | rfl | rfl | rfl | rfl <;> decide
      (simp -failIfUnchanged -dsimp -implicitDefEqProofs only [↓PD.Wa, PD.Wb0, PD.Wb1, PD.Wb2, PD.Wb3, PD.Wb4, PD.Wb5, PD.lim, PD.smallI, List.getD_cons_zero, List.getD_cons_succ, List.flatten_cons, List.flatten_nil, PD.setMany, Int.toNat_natCast, List.getElem?_cons_zero, List.getElem?_cons_succ, List.set_cons_zero, List.set_cons_succ, List.length_cons, List.length_nil, List.length_map, List.length_append, List.length_reverse, List.length_replicate, List.length_range, List.nil_append, List.append_nil, List.cons_append, Nat.zero_add, Nat.add_zero, Bool.not_true, Bool.not_false, if_true, if_false, ite_true, ite_false, decide_true, decide_false, Bool.and_true, Bool.true_and, Bool.and_false, Bool.false_and, Option.toList_none, Option.toList_some, Option.bind_some, List.replicate_zero, List.replicate_succ, List.map_nil, List.map_cons, Nat.reduceSub, Nat.reduceAdd, Nat.reduceMul, Nat.reduceLeDiff, Nat.reduceLT, Nat.reduceEqDiff, Int.reduceLE, Int.reduceLT, Int.reduceNeg, Int.reduceMul, Int.reduceAdd, Int.reduceSub, Int.reducePow, Int.reduceToNat, Int.reduceEq, true_and, and_true, eq_self, Int.zero_add, Bool.false_eq_true]; repeat ((refine wp_must (by first | (simp only [Bool.and_eq_true, decide_eq_true_eq, List.length_map, List.length_append, List.length_replicate, List.length_cons, List.length_nil]; omega) | exact mulOk_r (by omega) (by omega) | exact mulOk_l (by omega) (by omega) | exact PD.divOk_of (by omega)) ?_); simp -failIfUnchanged -dsimp -implicitDefEqProofs only [↓PD.Wa, PD.Wb0, PD.Wb1, PD.Wb2, PD.Wb3, PD.Wb4, PD.Wb5, PD.lim, PD.smallI, List.getD_cons_zero, List.getD_cons_succ, List.flatten_cons, List.flatten_nil, PD.setMany, Int.toNat_natCast, List.getElem?_cons_zero, List.getElem?_cons_succ, List.set_cons_zero, List.set_cons_succ, List.length_cons, List.length_nil, List.length_map, List.length_append, List.length_reverse, List.length_replicate, List.length_range, List.nil_append, List.append_nil, List.cons_append, Nat.zero_add, Nat.add_zero, Bool.not_true, Bool.not_false, if_true, if_false, ite_true, ite_false, decide_true, decide_false, Bool.and_true, Bool.true_and, Bool.and_false, Bool.false_and, Option.toList_none, Option.toList_some, Option.bind_some, List.replicate_zero, List.replicate_succ, List.map_nil, List.map_cons, Nat.reduceSub, Nat.reduceAdd, Nat.reduceMul, Nat.reduceLeDiff, Nat.reduceLT, Nat.reduceEqDiff, Int.reduceLE, Int.reduceLT, Int.reduceNeg, Int.reduceMul, Int.reduceAdd, Int.reduceSub, Int.reducePow, Int.reduceToNat, Int.reduceEq, true_and, and_true, eq_self, Int.zero_add, Bool.false_eq_true]))
      refine wp_peaks (k := 9) (by omega) ?_
      (simp -failIfUnchanged -dsimp -implicitDefEqProofs only [↓PD.Wa, PD.Wb0, PD.Wb1, PD.Wb2, PD.Wb3, PD.Wb4, PD.Wb5, PD.lim, PD.smallI, List.getD_cons_zero, List.getD_cons_succ, List.flatten_cons, List.flatten_nil, PD.setMany, Int.toNat_natCast, List.getElem?_cons_zero, List.getElem?_cons_succ, List.set_cons_zero, List.set_cons_succ, List.length_cons, List.length_nil, List.length_map, List.length_append, List.length_reverse, List.length_replicate, List.length_range, List.nil_append, List.append_nil, List.cons_append, Nat.zero_add, Nat.add_zero, Bool.not_true, Bool.not_false, if_true, if_false, ite_true, ite_false, decide_true, decide_false, Bool.and_true, Bool.true_and, Bool.and_false, Bool.false_and, Option.toList_none, Option.toList_some, Option.bind_some, List.replicate_zero, List.replicate_succ, List.map_nil, List.map_cons, Nat.reduceSub, Nat.reduceAdd, Nat.reduceMul, Nat.reduceLeDiff, Nat.reduceLT, Nat.reduceEqDiff, Int.reduceLE, Int.reduceLT, Int.reduceNeg, Int.reduceMul, Int.reduceAdd, Int.reduceSub, Int.reducePow, Int.reduceToNat, Int.reduceEq, true_and, and_true, eq_self, Int.zero_add, Bool.false_eq_true]; repeat ((refine wp_must (by first | (simp only [Bool.and_eq_true, decide_eq_true_eq, List.length_map, List.length_append, List.length_replicate, List.length_cons, List.length_nil]; omega) | exact mulOk_r (by omega) (by omega) | exact mulOk_l (by omega) (by omega) | exact PD.divOk_of (by omega)) ?_); simp -failIfUnchanged -dsimp -implicitDefEqProofs only [↓PD.Wa, PD.Wb0, PD.Wb1, PD.Wb2, PD.Wb3, PD.Wb4, PD.Wb5, PD.lim, PD.smallI, List.getD_cons_zero, List.getD_cons_succ, List.flatten_cons, List.flatten_nil, PD.setMany, Int.toNat_natCast, List.getElem?_cons_zero, List.getElem?_cons_succ, List.set_cons_zero, List.set_cons_succ, List.length_cons, List.length_nil, List.length_map, List.length_append, List.length_reverse, List.length_replicate, List.length_range, List.nil_append, List.append_nil, List.cons_append, Nat.zero_add, Nat.add_zero, Bool.not_true, Bool.not_false, if_true, if_false, ite_true, ite_false, decide_true, decide_false, Bool.and_true, Bool.true_and, Bool.and_false, Bool.false_and, Option.toList_none, Option.toList_some, Option.bind_some, List.replicate_zero, List.replicate_succ, List.map_nil, List.map_cons, Nat.reduceSub, Nat.reduceAdd, Nat.reduceMul, Nat.reduceLeDiff, Nat.reduceLT, Nat.reduceEqDiff, Int.reduceLE, Int.reduceLT, Int.reduceNeg, Int.reduceMul, Int.reduceAdd, Int.reduceSub, Int.reducePow, Int.reduceToNat, Int.reduceEq, true_and, and_true, eq_self, Int.zero_add, Bool.false_eq_true]))
    · rw [show hand.map (fun l => D.int (trn (sgs (difR l)))) = [0, 0, 1, 1, 1, 1, 2, 3, 1].map D.int from rfl]
      (simp -failIfUnchanged -dsimp -implicitDefEqProofs only [↓PD.Wa, PD.Wb0, PD.Wb1, PD.Wb2, PD.Wb3, PD.Wb4, PD.Wb5, PD.lim, PD.smallI, List.getD_cons_zero, List.getD_cons_succ, List.flatten_cons, List.flatten_nil, PD.setMany, Int.toNat_natCast, List.getElem?_cons_zero, List.getElem?_cons_succ, List.set_cons_zero, List.set_cons_succ, List.length_cons, List.length_nil, List.length_map, List.length_append, List.length_reverse, List.length_replicate, List.length_range, List.nil_append, List.append_nil, List.cons_append, Nat.zero_add, Nat.add_zero, Bool.not_true, Bool.not_false, if_true, if_false, ite_true, ite_false, decide_true, decide_false, Bool.and_true, Bool.true_and, Bool.and_false, Bool.false_and, Option.toList_none, Option.toList_some, Option.bind_some, List.replicate_zero, List.replicate_succ, List.map_nil, List.map_cons, Nat.reduceSub, Nat.reduceAdd, Nat.reduceMul, Nat.reduceLeDiff, Nat.reduceLT, Nat.reduceEqDiff, Int.reduceLE, Int.reduceLT, Int.reduceNeg, Int.reduceMul, Int.reduceAdd, Int.reduceSub, Int.reducePow, Int.reduceToNat, Int.reduceEq, true_and, and_true, eq_self, Int.zero_add, Bool.false_eq_true]; repeat ((refine wp_must (by first | (simp only [Bool.and_eq_true, decide_eq_true_eq, List.length_map, List.length_append, List.length_replicate, List.length_cons, List.length_nil]; omega) | exact mulOk_r (by omega) (by omega) | exact mulOk_l (by omega) (by omega) | exact PD.divOk_of (by omega)) ?_); simp -failIfUnchanged -dsimp -implicitDefEqProofs only [↓PD.Wa, PD.Wb0, PD.Wb1, PD.Wb2, PD.Wb3, PD.Wb4, PD.Wb5, PD.lim, PD.smallI, List.getD_cons_zero, List.getD_cons_succ, List.flatten_cons, List.flatten_nil, PD.setMany, Int.toNat_natCast, List.getElem?_cons_zero, List.getElem?_cons_succ, List.set_cons_zero, List.set_cons_succ, List.length_cons, List.length_nil, List.length_map, List.length_append, List.length_reverse, List.length_replicate, List.length_range, List.nil_append, List.append_nil, List.cons_append, Nat.zero_add, Nat.add_zero, Bool.not_true, Bool.not_false, if_true, if_false, ite_true, ite_false, decide_true, decide_false, Bool.and_true, Bool.true_and, Bool.and_false, Bool.false_and, Option.toList_none, Option.toList_some, Option.bind_some, List.replicate_zero, List.replicate_succ, List.map_nil, List.map_cons, Nat.reduceSub, Nat.reduceAdd, Nat.reduceMul, Nat.reduceLeDiff, Nat.reduceLT, Nat.reduceEqDiff, Int.reduceLE, Int.reduceLT, Int.reduceNeg, Int.reduceMul, Int.reduceAdd, Int.reduceSub, Int.reducePow, Int.reduceToNat, Int.reduceEq, true_and, and_true, eq_self, Int.zero_add, Bool.false_eq_true]))
      change Wp (cmpM .eq (.lst ([0, 0, 1, 1, 1, 1, 2, 3, 1].map D.int)) (.lst ([0, 0, 1, 1, 1, 1, 2, 3, 1].map D.int)) (dkS d [])) _
      rw [eq_lI]
      (simp -failIfUnchanged -dsimp -implicitDefEqProofs only [↓PD.Wa, PD.Wb0, PD.Wb1, PD.Wb2, PD.Wb3, PD.Wb4, PD.Wb5, PD.lim, PD.smallI, List.getD_cons_zero, List.getD_cons_succ, List.flatten_cons, List.flatten_nil, PD.setMany, Int.toNat_natCast, List.getElem?_cons_zero, List.getElem?_cons_succ, List.set_cons_zero, List.set_cons_succ, List.length_cons, List.length_nil, List.length_map, List.length_append, List.length_reverse, List.length_replicate, List.length_range, List.nil_append, List.append_nil, List.cons_append, Nat.zero_add, Nat.add_zero, Bool.not_true, Bool.not_false, if_true, if_false, ite_true, ite_false, decide_true, decide_false, Bool.and_true, Bool.true_and, Bool.and_false, Bool.false_and, Option.toList_none, Option.toList_some, Option.bind_some, List.replicate_zero, List.replicate_succ, List.map_nil, List.map_cons, Nat.reduceSub, Nat.reduceAdd, Nat.reduceMul, Nat.reduceLeDiff, Nat.reduceLT, Nat.reduceEqDiff, Int.reduceLE, Int.reduceLT, Int.reduceNeg, Int.reduceMul, Int.reduceAdd, Int.reduceSub, Int.reducePow, Int.reduceToNat, Int.reduceEq, true_and, and_true, eq_self, Int.zero_add, Bool.false_eq_true]; repeat ((refine wp_must (by first | (simp only [Bool.and_eq_true, decide_eq_true_eq, List.length_map, List.length_append, List.length_replicate, List.length_cons, List.length_nil]; omega) | exact mulOk_r (by omega) (by omega) | exact mulOk_l (by omega) (by omega) | exact PD.divOk_of (by omega)) ?_); simp -failIfUnchanged -dsimp -implicitDefEqProofs only [↓PD.Wa, PD.Wb0, PD.Wb1, PD.Wb2, PD.Wb3, PD.Wb4, PD.Wb5, PD.lim, PD.smallI, List.getD_cons_zero, List.getD_cons_succ, List.flatten_cons, List.flatten_nil, PD.setMany, Int.toNat_natCast, List.getElem?_cons_zero, List.getElem?_cons_succ, List.set_cons_zero, List.set_cons_succ, List.length_cons, List.length_nil, List.length_map, List.length_append, List.length_reverse, List.length_replicate, List.length_range, List.nil_append, List.append_nil, List.cons_append, Nat.zero_add, Nat.add_zero, Bool.not_true, Bool.not_false, if_true, if_false, ite_true, ite_false, decide_true, decide_false, Bool.and_true, Bool.true_and, Bool.and_false, Bool.false_and, Option.toList_none, Option.toList_some, Option.bind_some, List.replicate_zero, List.replicate_succ, List.map_nil, List.map_cons, Nat.reduceSub, Nat.reduceAdd, Nat.reduceMul, Nat.reduceLeDiff, Nat.reduceLT, Nat.reduceEqDiff, Int.reduceLE, Int.reduceLT, Int.reduceNeg, Int.reduceMul, Int.reduceAdd, Int.reduceSub, Int.reducePow, Int.reduceToNat, Int.reduceEq, true_and, and_true, eq_self, Int.zero_add, Bool.false_eq_true]))
      exact end_law
end G05

namespace G05
def fuel : Nat := 12
end G05
open PySem PySem.W PyProof.Rows
set_option maxHeartbeats 0 in
theorem PySem.Challenge.cw_nonewturns_k05_differences_and_peaks_holds : PySem.Challenge.rw_nonewturns_k05_differences_and_peaks.Holds := by
  w_on; o_law; k_head; (case hw => w_witness2)
  k_fill
  refine Att.attach_call (l := PySem.Challenge.rw_nonewturns_k05_differences_and_peaks) (n := 63) rfl rfl fun w s₀ s₁ mg mb fa o pm cd doc a vs ns G Y ho hd hcd hmg hobj hints hlen hg => ?_
  have KX := PySem.W.kIn_of Y
  refine PD.law_end (g := G05.gb) (k := G05.fuel) (j := 13) (x0 := Str.ofString "_law_script") ?T KX hmg G.T.g G.T.b G.T.builtins G.T.nolimit hg hobj hints (Nat.le_trans hlen (by decide)) ⟨rfl, by decide, by decide⟩ (G05.plain ns hlen)
  refine' G05.table KX G.T.g ?a0 ?l0 ?x0 ?k0 ?a1 ?l1 ?x1 ?k1 ?a2 ?l2 ?x2 ?k2 ?a3 ?l3 ?x3 ?k3 ?a4 ?l4 ?x4 ?k4 ?a5 ?l5 ?x5 ?k5 ?a6 ?l6 ?x6 ?k6 ?a7 ?l7 ?x7 ?k7 ?a8 ?l8 ?x8 ?k8 ?a9 ?l9 ?x9 ?k9 ?a10 ?l10 ?x10 ?k10 ?a11 ?l11 ?x11 ?k11 ?a12 ?l12 ?x12 ?k12 ?a13 ?l13 ?x13 ?k13 ?y0 ?y1 ?y2 ?y3 ?y4 ?y5 ?y6 ?y7
  (case a0 => k_is); (case l0 => k_is); (case x0 => k_is); (case k0 => k_is); (case a1 => k_is); (case l1 => k_is); (case x1 => k_is); (case k1 => k_is); (case a2 => k_is); (case l2 => k_is); (case x2 => k_is); (case k2 => k_is); (case a3 => k_is); (case l3 => k_is); (case x3 => k_is); (case k3 => k_is); (case a4 => k_is); (case l4 => k_is); (case x4 => k_is); (case k4 => k_is); (case a5 => k_is); (case l5 => k_is); (case x5 => k_is); (case k5 => k_is); (case a6 => k_is); (case l6 => k_is); (case x6 => k_is); (case k6 => k_is); (case a7 => k_is); (case l7 => k_is); (case x7 => k_is); (case k7 => k_is); (case a8 => k_is); (case l8 => k_is); (case x8 => k_is); (case k8 => k_is); (case a9 => k_is); (case l9 => k_is); (case x9 => k_is); (case k9 => k_is); (case a10 => k_is); (case l10 => k_is); (case x10 => k_is); (case k10 => k_is); (case a11 => k_is); (case l11 => k_is); (case x11 => k_is); (case k11 => k_is); (case a12 => k_is); (case l12 => k_is); (case x12 => k_is); (case k12 => k_is); (case a13 => k_is); (case l13 => k_is); (case x13 => k_is); (case k13 => k_is); (case y0 => k_is); (case y1 => k_is); (case y2 => k_is); (case y3 => k_is); (case y4 => k_is); (case y5 => k_is); (case y6 => k_is); (case y7 => k_is)
