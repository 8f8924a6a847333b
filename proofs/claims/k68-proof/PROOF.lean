import PyProof.Rows.All
import Wide.All
import OpenK.AllK
import Wide.FinOn
import HandS.ForMost
import HandS.ForExc
import HandS.Deep
import HandS.TupAny
import HandS.IsInst
import HandS.TupLen
import HandS.ExcOwn
import HandS.Iter
import HandS.Comp
import HandS.WordsExc
import HandS.Ends
import HandS.More
import HandS.ExcInit
import HandS.ExcSuper
import KE.KExcSuper
import KE.KSuper
import HandS.ExcField
import KE.KExcIs
import HandS.ExcIs
import HandS.Set
import HandS.SetKeys
import HandS.Strs
import KE.SortData
import PyProof.Rows.SetFrom
import PyProof.StrWalks
import PyProof.Rows.SortShellAny
import HandS.Text
import HandS.SortInts
import PyProof.ListRange
import KE.SortKeyHeap
import HandS.SortKw
import HandS.TupLe
import PyProof.StrOps2
import KE.KDictSum
import HandS.DictComp
import KE.KDictPairs
import KE.RegKSuper
import KE.RegKIsAll
import PySem.Challenge.RW_starless_k68_whole_kinds_of_words
set_option Elab.async false
set_option linter.all false
set_option maxRecDepth 100000
set_option maxHeartbeats 4000000
/-! DL, the plain part: data as trees (D), a frame as a list of cells, a small language of steps over frames (Sem). No Python model here; core Lean alone. -/
namespace DL

/-- data: what a Python value is, as a tree -/
inductive D where
  | non | bl (b : Bool) | int (i : Int) | str (s : List Nat) | tup (xs : List D) | lst (xs : List D) | dic (kvs : List (D × D))
  | klst (xs : List D)  -- a list that is only looked at (the law's script)
  deriving Inhabited

namespace D
mutual
def beq : D → D → Bool
  | .non, .non => true
  | .bl a, .bl b => a == b
  | .int a, .int b => a == b
  | .str a, .str b => a == b
  | .tup a, .tup b => beqL a b
  | .lst a, .lst b => beqL a b
  | .dic a, .dic b => beqP a b
  | .klst a, .klst b => beqL a b
  | _, _ => false
def beqL : List D → List D → Bool
  | [], [] => true
  | x :: xs, y :: ys => beq x y && beqL xs ys
  | _, _ => false
def beqP : List (D × D) → List (D × D) → Bool
  | [], [] => true
  | (a, b) :: xs, (c, d) :: ys => beq a c && beq b d && beqP xs ys
  | _, _ => false
end
mutual
theorem beq_iff : ∀ a b : D, beq a b = true ↔ a = b
  | .non, b => by cases b <;> simp [beq]
  | .bl _, b => by cases b <;> simp [beq]
  | .int _, b => by cases b <;> simp [beq]
  | .str _, b => by cases b <;> simp [beq]
  | .tup xs, b => by cases b <;> simp [beq, beqL_iff xs]
  | .lst xs, b => by cases b <;> simp [beq, beqL_iff xs]
  | .dic xs, b => by cases b <;> simp [beq, beqP_iff xs]
  | .klst xs, b => by cases b <;> simp [beq, beqL_iff xs]
theorem beqL_iff : ∀ a b : List D, beqL a b = true ↔ a = b
  | [], b => by cases b <;> simp [beqL]
  | x :: xs, b => by cases b <;> simp [beqL, beq_iff x, beqL_iff xs]
theorem beqP_iff : ∀ a b : List (D × D), beqP a b = true ↔ a = b
  | [], b => by cases b <;> simp [beqP]
  | (x, y) :: xs, b => by
    cases b with
    | nil => simp [beqP]
    | cons q qs => obtain ⟨u, v⟩ := q; simp [beqP, beq_iff x, beq_iff y, beqP_iff xs, and_assoc]
end
instance : DecidableEq D := fun a b => if h : beq a b = true then .isTrue ((beq_iff a b).mp h) else .isFalse fun e => h ((beq_iff a b).mpr e)

mutual
/-- == of Python, on data -/
def eqv : D → D → Bool
  | .non, .non => true
  | .bl a, .bl b => a == b
  | .bl a, .int j => (if a then 1 else 0) == j
  | .int i, .bl b => i == (if b then 1 else 0)
  | .int i, .int j => i == j
  | .str x, .str y => x == y
  | .lst xs, .lst ys => eqvL xs ys
  | .tup xs, .tup ys => eqvL xs ys
  | _, _ => false
def eqvL : List D → List D → Bool
  | [], [] => true
  | x :: xs, y :: ys => eqv x y && eqvL xs ys
  | _, _ => false
end
mutual
/-- no dict within -/
def plain : D → Bool
  | .dic _ => false
  | .klst _ => false
  | .str s => s.all fun c => decide (c < 0x110000)
  | .tup xs => plainL xs
  | .lst xs => plainL xs
  | _ => true
def plainL : List D → Bool
  | [] => true
  | x :: xs => plain x && plainL xs
end
mutual
def depth : D → Nat
  | .tup xs => depthL xs + 1
  | .lst xs => depthL xs + 1
  | .dic _ => 0
  | _ => 0
def depthL : List D → Nat
  | [] => 0
  | x :: xs => max (depth x) (depthL xs)
end
def isNon : D → Bool
  | .non => true
  | _ => false
/-- flat: None, a truth value, an int, a text -/
def flat : D → Bool
  | .non => true
  | .bl _ => true
  | .int _ => true
  | .str _ => true
  | _ => false
end D

/-- the longest list or text -/
def LIM : Nat := 16777216

/-- what a name holds: nothing known; data that never changes; a list or dict that only this name holds; the same, lent by the caller -/
inductive Cell where
  | no | fr (d : D) | ow (d : D) | io (d : D)
  deriving Inhabited
def Cell.dat : Cell → Option D
  | .no => none
  | .fr d => some d
  | .ow d => some d
  | .io d => some d
abbrev Env := List Cell
structure Exc where
  cls : Nat
  name : List Nat
  val : D
inductive R (α : Type) where
  | ok (a : α) (ρ : Env)
  | exc (x : Exc) (ρ : Env)
  | bad
abbrev Sem (α : Type) := Env → R α
def pure' {α : Type} (a : α) : Sem α := fun ρ => .ok a ρ
def bind' {α β : Type} (m : Sem α) (f : α → Sem β) : Sem β := fun ρ => match m ρ with
  | .ok a ρ' => f a ρ'
  | .exc x ρ' => .exc x ρ'
  | .bad => .bad
/-- a value, or stuck -/
def opt {α : Type} (o : Option α) : Sem α := fun ρ => match o with
  | some a => .ok a ρ
  | none => .bad

/-- what a call gives back: a cell and what the lent things hold behind it -/
inductive CR where
  | ok (c : Cell) (outs : List D)
  | exc (x : Exc) (outs : List D)
  | bad
abbrev Ora := Nat → List Cell → CR

/-! ### operands -/
inductive Opd where
  | val (d : D) | slot (i : Nat)
def getO (ρ : Env) : Opd → Option D
  | .val d => some d
  | .slot i => (ρ[i]?).bind Cell.dat

/-- a name as a value: what it holds never changes from here on -/
def sVar (i : Nat) : Sem Cell := fun ρ => match ρ[i]? with
  | some (.fr d) => .ok (.fr d) ρ
  | some (.ow d) => .ok (.fr d) (ρ.set i (.fr d))
  | _ => .bad
/-- a name that is looked at -/
def oVar (i : Nat) : Sem Opd := fun ρ => match (ρ[i]?).bind Cell.dat with
  | some _ => .ok (.slot i) ρ
  | none => .bad
def outD : Cell → Option D
  | .fr d => some d
  | .ow d => some d
  | _ => none
/-- a value that never changes from here on -/
def fz (m : Sem Cell) : Sem D := bind' m fun c => opt (outD c)
def ov (m : Sem Cell) : Sem Opd := bind' m fun c => opt ((outD c).map .val)
def sK (d : D) : Sem Cell := fun ρ => .ok (.fr d) ρ
/-- what an operand holds now -/
def rdO (x : Opd) : Sem D := fun ρ => match getO ρ x with
  | some d => .ok d ρ
  | none => .bad
/-- one, two operands, then what they hold -/
def s1 {β : Type} (a : Sem Opd) (f : D → Option β) : Sem β := bind' a fun x => bind' (rdO x) fun d => opt (f d)
def s2 {β : Type} (a b : Sem Opd) (f : D → D → Option β) : Sem β := bind' a fun x => bind' b fun y => bind' (rdO x) fun d => bind' (rdO y) fun e => opt (f d e)

/-! ### operators -/
inductive BOp where | add | sub | mul | fdiv | mod
  deriving DecidableEq
def binop : BOp → D → D → Option Cell
  | .add, .int i, .int j => some (.fr (.int (i + j)))
  | .add, .str a, .str b => if a.length + b.length ≤ LIM then some (.fr (.str (a ++ b))) else none
  | .add, .lst a, .lst b => if a.length + b.length ≤ LIM then some (.ow (.lst (a ++ b))) else none
  | .add, .tup a, .tup b => if a ≠ [] ∧ a.length + b.length ≤ LIM then some (.fr (.tup (a ++ b))) else none
  | .sub, .int i, .int j => some (.fr (.int (i - j)))
  | .mul, .int i, .int j => if (-(2 ^ 64) < i ∧ i < 2 ^ 64) ∨ (-(2 ^ 64) < j ∧ j < 2 ^ 64) then some (.fr (.int (i * j))) else none
  | .mul, .lst a, .int j => if j < 2 ^ 20 ∧ -(2 ^ 20) < j ∧ a.length * j.toNat ≤ LIM then some (.ow (.lst (List.replicate j.toNat a).flatten)) else none
  | .fdiv, .int i, .int j => if 0 < j ∧ j < 1073741824 then some (.fr (.int (i / j))) else none
  | .mod, .int i, .int j => if 0 < j then some (.fr (.int (i % j))) else none
  | _, _, _ => none
inductive COp where | lt | le | gt | ge | eq | ne | inn | nin
  deriving DecidableEq
/-- the letters of a text as texts -/
def dget (kvs : List (D × D)) (k : D) : Option D := (kvs.find? fun p => decide (p.1 = k)).map (·.2)
def dput (kvs : List (D × D)) (k v : D) : List (D × D) :=
  if kvs.any fun p => decide (p.1 = k) then kvs.map fun p => if p.1 = k then (p.1, v) else p else kvs ++ [(k, v)]
/-- a key of a dict: an int, a text; a tuple of such -/
def key1 : D → Bool
  | .int _ => true
  | .str _ => true
  | _ => false
def keyT : D → Bool
  | .tup ks => ks.all key1
  | _ => false
/-- may the dict be asked for the key -/
def askable (kvs : List (D × D)) (k : D) : Bool := (key1 k && kvs.all fun p => key1 p.1) || (keyT k && kvs.all fun p => keyT p.1)
def cmpop : COp → D → D → Option Bool
  | .lt, .int i, .int j => some (decide (i < j))
  | .le, .int i, .int j => some (decide (i ≤ j))
  | .gt, .int i, .int j => some (decide (j < i))
  | .ge, .int i, .int j => some (decide (j ≤ i))
  | .eq, .str a, .str b => some (decide (a = b))
  | .ne, .str a, .str b => some (!decide (a = b))
  | .lt, .str a, .str b => some (decide (a < b))
  | .le, .str a, .str b => some (!decide (b < a))
  | .eq, a, b => if a.plain && b.plain && decide (a.depth ≤ 64) && decide (b.depth ≤ 64) then some (a.eqv b) else none
  | .ne, a, b => if a.plain && b.plain && decide (a.depth ≤ 64) && decide (b.depth ≤ 64) then some (!a.eqv b) else none
  | .inn, .str [c], .str t => some (decide (c ∈ t))
  | .nin, .str [c], .str t => some (!decide (c ∈ t))
  | .inn, a, .lst xs => if a.flat && xs.all D.flat then some (xs.any fun x => x.eqv a) else none
  | .nin, a, .lst xs => if a.flat && xs.all D.flat then some (!xs.any fun x => x.eqv a) else none
  | .inn, a, .tup xs => if a.flat && xs.all D.flat then some (xs.any fun x => x.eqv a) else none
  | .nin, a, .tup xs => if a.flat && xs.all D.flat then some (!xs.any fun x => x.eqv a) else none
  | .inn, a, .dic kvs => if askable kvs a then some (dget kvs a).isSome else none
  | .nin, a, .dic kvs => if askable kvs a then some (!(dget kvs a).isSome) else none
  | _, _, _ => none
def sBin (op : BOp) (a b : Sem Opd) : Sem Cell := s2 a b (binop op)
def sCmp (op : COp) (a b : Sem Opd) : Sem Bool := s2 a b (cmpop op)
def sIsN (a : Sem Opd) : Sem Bool := s1 a fun d => some d.isNon
def sNotN (a : Sem Opd) : Sem Bool := s1 a fun d => some (!d.isNon)
/-- a truth value as a cell -/
def sBl (m : Sem Bool) : Sem Cell := bind' m fun b => pure' (.fr (.bl b))
/-- a cell that is a truth value -/
def bOf (m : Sem Cell) : Sem Bool := bind' m fun c => opt (match c with | .fr (.bl b) => some b | _ => none)
def sIf {α : Type} (c : Sem Bool) (a b : Sem α) : Sem α := bind' c fun k => match k with
  | true => a
  | false => b
def sAnd (a b : Sem Bool) : Sem Bool := sIf a b (pure' false)
def sOr (a b : Sem Bool) : Sem Bool := sIf a (pure' true) b
def sNot (a : Sem Bool) : Sem Bool := bind' a fun k => pure' (!k)
/-- a < b < c -/
def sChain (o1 o2 : COp) (a b c : Sem Opd) : Sem Bool := bind' a fun x => bind' b fun y => bind' (rdO x) fun d => bind' (rdO y) fun e => bind' (opt (cmpop o1 d e)) fun k => match k with
  | true => bind' c fun z => bind' (rdO y) fun e' => bind' (rdO z) fun f => opt (cmpop o2 e' f)
  | false => pure' false

def truth : D → Option Bool
  | .non => some false
  | .bl b => some b
  | .int i => some (i != 0)
  | .str s => if s.length ≤ LIM then some (!s.isEmpty) else none
  | .lst xs => some (!xs.isEmpty)
  | .tup xs => some (!xs.isEmpty)
  | .dic _ => none
  | .klst _ => none

/-- a value by its truth -/
def sTru (m : Sem Opd) : Sem Bool := s1 m truth

/-! ### lists of expressions, displays -/
def sNil : Sem (List D) := pure' []
def sCons (a : Sem D) (b : Sem (List D)) : Sem (List D) := bind' a fun x => bind' b fun xs => pure' (x :: xs)
def sTup (m : Sem (List D)) : Sem Cell := bind' m fun xs => opt (if xs.length ≤ LIM then some (.fr (.tup xs)) else none)
def sLst (m : Sem (List D)) : Sem Cell := bind' m fun xs => opt (if xs.length ≤ LIM then some (.ow (.lst xs)) else none)

/-! ### subscripts, slices -/
def ixN (n : Nat) (i : Int) : Option Nat := if 0 ≤ i then (if i < n then some i.toNat else none) else if -(n : Int) ≤ i then some (i + n).toNat else none
def atI {α : Type} (xs : List α) (i : Int) : Option α := (ixN xs.length i).bind fun j => xs[j]?
def index : D → D → Option D
  | .lst xs, .int i => atI xs i
  | .tup xs, .int i => atI xs i
  | .klst xs, .int i => atI xs i
  | .str s, .int i => if s.length ≤ LIM then (atI s i).map fun c => .str [c] else none
  | .dic kvs, k => if askable kvs k then dget kvs k else none
  | _, _ => none
def sIdx (a b : Sem Opd) : Sem Cell := s2 a b fun d e => (index d e).map .fr
def sIx (n d : Nat) : Option Int → Nat
  | none => d
  | some v => if v < 0 then (v + n).toNat else min v.toNat n
def cut {α : Type} (xs : List α) (lo hi : Option Int) : List α := (xs.drop (sIx xs.length 0 lo)).take (sIx xs.length xs.length hi - sIx xs.length 0 lo)
def slice : D → Option Int → Option Int → Option Cell
  | .lst xs, lo, hi => some (.ow (.lst (cut xs lo hi)))
  | .klst xs, lo, hi => some (.ow (.lst (cut xs lo hi)))
  | .tup xs, lo, hi => some (.fr (.tup (cut xs lo hi)))
  | .str xs, lo, hi => if xs.length ≤ LIM then some (.fr (.str (cut xs lo hi))) else none
  | _, _, _ => none
def sNoPart : Sem (Option Int) := pure' none
def sPart (m : Sem Opd) : Sem (Option Int) := s1 m fun d => match d with
  | .int i => some (some i)
  | _ => none
def sSl (a : Sem Opd) (l h : Sem (Option Int)) : Sem Cell := bind' a fun x => bind' l fun lo => bind' h fun hi => bind' (rdO x) fun d => opt (slice d lo hi)

/-! ### calls -/
/-- several operands, then what they hold -/
def oNil : Sem (List Opd) := pure' []
def oCons (a : Sem Opd) (b : Sem (List Opd)) : Sem (List Opd) := bind' a fun x => bind' b fun xs => pure' (x :: xs)
def getOs (ρ : Env) : List Opd → Option (List D)
  | [] => some []
  | x :: xs => match getO ρ x, getOs ρ xs with
    | some d, some ds => some (d :: ds)
    | _, _ => none
def rdOs (xs : List Opd) : Sem (List D) := fun ρ => match getOs ρ xs with
  | some ds => .ok ds ρ
  | none => .bad
/-- a call of a built-in by values -/
def sB {β : Type} (f : List D → Option β) (m : Sem (List Opd)) : Sem β := bind' m fun xs => bind' (rdOs xs) fun ds => opt (f ds)
/-- a name that may be lent -/
def lent1 (ρ : Env) (i : Nat) : Option D := match ρ[i]? with
  | some (.ow d) => some d
  | some (.io d) => some d
  | _ => none
/-- what the lent names hold -/
def lent (ρ : Env) : List Nat → Option (List D)
  | [] => some []
  | i :: is => match lent1 ρ i, lent ρ is with
    | some d, some ds => some (d :: ds)
    | _, _ => none
/-- a name's object has changed -/
def redo (ρ : Env) (i : Nat) (d : D) : Env := match ρ[i]? with
  | some (.ow _) => ρ.set i (.ow d)
  | some (.io _) => ρ.set i (.io d)
  | _ => ρ
/-- .. and behind the call -/
def back (ρ : Env) : List Nat → List D → Env
  | i :: is, d :: ds => back (redo ρ i d) is ds
  | _, _ => ρ
def lentOk (ios : List Nat) : Sem Unit := fun ρ => match lent ρ ios with
  | some _ => .ok () ρ
  | none => .bad
/-- f(lent names, values), the values there -/
def sCall1 (Γ : Ora) (f : Nat) (ios : List Nat) (ds : List D) : Sem Cell := fun ρ => match lent ρ ios with
  | some cs => (match Γ f (cs.map .io ++ ds.map .fr) with
    | .ok c outs => .ok c (back ρ ios outs)
    | .exc x outs => .exc x (back ρ ios outs)
    | .bad => .bad)
  | none => .bad
def sCall (Γ : Ora) (f : Nat) (ios : List Nat) (m : Sem (List D)) : Sem Cell := bind' (lentOk ios) fun _ => bind' m fun ds => sCall1 Γ f ios ds

/-! ### built-ins by values -/
def isBl : D → Bool
  | .bl _ => true
  | _ => false
def dints : List D → Option (List Int)
  | [] => some []
  | .int i :: xs => (dints xs).map (i :: ·)
  | _ :: _ => none
def bools : List D → Option (List Bool)
  | [] => some []
  | .bl i :: xs => (bools xs).map (i :: ·)
  | _ :: _ => none
def dstrs : List D → Option (List (List Nat))
  | [] => some []
  | .str i :: xs => (dstrs xs).map (i :: ·)
  | _ :: _ => none
def bLen : List D → Option Cell
  | [.lst xs] => some (.fr (.int xs.length))
  | [.klst xs] => some (.fr (.int xs.length))
  | [.tup xs] => some (.fr (.int xs.length))
  | [.dic xs] => some (.fr (.int xs.length))
  | [.str s] => if s.length ≤ LIM then some (.fr (.int s.length)) else none
  | _ => none
def bAbs : List D → Option Cell
  | [.int i] => some (.fr (.int (if i < 0 then -i else i)))
  | _ => none
def bInt : List D → Option Cell
  | [.int i] => some (.fr (.int i))
  | [.bl k] => some (.fr (.int (if k then 1 else 0)))
  | _ => none
def bList : List D → Option Cell
  | [.lst xs] => some (.ow (.lst xs))
  | [.str s] => if s.length ≤ LIM then some (.ow (.lst (s.map fun c => .str [c]))) else none
  | [.tup xs] => some (.ow (.lst xs))
  | _ => none
def bTuple : List D → Option Cell
  | [.lst xs] => some (.fr (.tup xs))
  | [.tup xs] => some (.fr (.tup xs))
  | _ => none
def bSum : List D → Option Cell
  | [.lst xs] => (dints xs).map fun ns => .fr (.int ns.sum)
  | _ => none
def bAll : List D → Option Cell
  | [.lst xs] => (bools xs).map fun bs => .fr (.bl (bs.all id))
  | _ => none
def bAny : List D → Option Cell
  | [.lst xs] => (bools xs).map fun bs => .fr (.bl (bs.any id))
  | _ => none
def bMax2 : List D → Option Cell
  | [.int i, .int j] => some (.fr (.int (if j > i then j else i)))
  | _ => none
def bMin2 : List D → Option Cell
  | [.int i, .int j] => some (.fr (.int (if j < i then j else i)))
  | _ => none
inductive Ty where | int | bool | str | list | tuple | dict
  deriving DecidableEq
def isi : Ty → D → Bool
  | .int, .int _ => true
  | .int, .bl _ => true
  | .bool, .bl _ => true
  | .str, .str _ => true
  | .list, .lst _ => true
  | .list, .klst _ => true
  | .tuple, .tup _ => true
  | .dict, .dic _ => true
  | _, _ => false
def sIsi (t : Ty) (m : Sem Opd) : Sem Bool := s1 m fun d => some (isi t d)

/-- {k: v, ..} -/
def sPairs : List (Sem D × Sem D) → Sem (List (D × D))
  | [] => pure' []
  | (k, v) :: r => bind' k fun a => bind' v fun b => bind' (sPairs r) fun ps => pure' ((a, b) :: ps)
def disp (ps : List (D × D)) : Option Cell := if ps.all (fun p => key1 p.1) && decide (ps.length ≤ 15) then some (.ow (.dic (ps.foldl (fun acc p => dput acc p.1 p.2) []))) else none
def sDisp (l : List (Sem D × Sem D)) : Sem Cell := bind' (sPairs l) fun ps => opt (disp ps)

/-! ### a dict of the module, text keys: only asked -/
def inG (kvs : List (D × D)) : D → Option Bool
  | .str s => some (dget kvs (.str s)).isSome
  | _ => none
def ninG (kvs : List (D × D)) : D → Option Bool
  | .str s => some (!(dget kvs (.str s)).isSome)
  | _ => none
def ixG (kvs : List (D × D)) : D → Option Cell
  | .str s => (dget kvs (.str s)).map .fr
  | _ => none

/-! ### statements -/
inductive Flow where
  | next | ret (c : Cell) | brk | cont
def seq (a b : Sem Flow) : Sem Flow := bind' a fun f => match f with
  | .next => b
  | f => pure' f
def skip : Sem Flow := pure' .next
/-- name = value; a lent name is not stored -/
def put (i : Nat) (c : Cell) (ρ : Env) : Option Env := match ρ[i]?, c with
  | some (.io _), _ => none
  | none, _ => none
  | some _, .fr d => some (ρ.set i (.fr d))
  | some _, .ow d => some (ρ.set i (.ow d))
  | some _, _ => none
def putS (i : Nat) (c : Cell) : Sem Flow := fun ρ => match put i c ρ with
  | some ρ' => .ok .next ρ'
  | none => .bad
def sSet (i : Nat) (m : Sem Cell) : Sem Flow := bind' m (putS i)
/-- a target: a name, or several -/
inductive Tgt where
  | name (i : Nat) | tup (ts : List Tgt)
mutual
def store : Tgt → D → Env → Option Env
  | .name i, d, ρ => put i (.fr d) ρ
  | .tup ts, .tup ds, ρ => if ts.length = ds.length then storeL ts ds ρ else none
  | .tup _, _, _ => none
def storeL : List Tgt → List D → Env → Option Env
  | t :: ts, d :: ds, ρ => match store t d ρ with
    | some ρ' => storeL ts ds ρ'
    | none => none
  | _, _, ρ => some ρ
end
def storeS (t : Tgt) (d : D) : Sem Flow := fun ρ => match store t d ρ with
  | some ρ' => .ok .next ρ'
  | none => .bad
def sAsg (t : Tgt) (m : Sem D) : Sem Flow := bind' m (storeS t)
/-- a value dropped -/
def sDrop {α : Type} (m : Sem α) : Sem Flow := bind' m fun _ => pure' .next
def sRet (m : Sem Cell) : Sem Flow := bind' m fun c => pure' (.ret c)
/-- return x: an own list goes out as it is -/
def sRetVar (i : Nat) : Sem Flow := fun ρ => match ρ[i]? with
  | some (.fr d) => .ok (.ret (.fr d)) ρ
  | some (.ow d) => .ok (.ret (.ow d)) (ρ.set i .no)
  | _ => .bad
def sRetN : Sem Flow := fun ρ => .ok (.ret (.fr .non)) ρ
def sBrk : Sem Flow := fun ρ => .ok .brk ρ
def sCont : Sem Flow := fun ρ => .ok .cont ρ
def throw' {α : Type} (x : Exc) : Sem α := fun ρ => .exc x ρ
def sRaise (cls : Nat) (name : List Nat) (m : Sem D) : Sem Flow := bind' m fun d => throw' ⟨cls, name, d⟩
/-- try: body; except C as x (name i): suite; no other class comes here -/
def sTryAs (i : Nat) (c0 : Nat) (body : Sem Flow) (suite : Exc → Sem Flow) : Sem Flow := fun ρ => match body ρ with
  | .ok f ρ' => .ok f ρ'
  | .exc x ρ' => if x.cls = c0 ∧ i < ρ'.length then suite x (ρ'.set i .no) else .bad
  | .bad => .bad
/-- return e.at if isinstance(e, ..) and e.name == nm else .. -/
def sAtIf (nm : List Nat) (x : Exc) : Sem Flow := fun ρ => if x.name = nm then .ok (.ret (.fr x.val)) ρ else .bad
/-- x op= e -/
def aug (op : BOp) (d e : D) : Option Cell := if d.flat then (match binop op d e with | some (.fr r) => some (.fr r) | _ => none) else none
def sAug (i : Nat) (op : BOp) (m : Sem Opd) : Sem Flow := bind' (oVar i) fun x => bind' m fun y => bind' (rdO x) fun d => bind' (rdO y) fun e => bind' (opt (aug op d e)) (putS i)
/-- a change of what an own (or lent) name holds -/
def change {β : Type} (i : Nat) (f : D → Option (β × D)) : Sem β := fun ρ => match lent1 ρ i with
  | some d => (match f d with | some (c, d') => .ok c (redo ρ i d') | none => .bad)
  | none => .bad
/-- x.append(e) -/
def append (e : D) : D → Option (D × D)
  | .lst xs => if xs.length < LIM then some (.non, .lst (xs ++ [e])) else none
  | _ => none
/-- x.pop(i) -/
def popAt (e : D) : D → Option (D × D)
  | .lst xs => match e with
    | .int i => if xs.length ≤ LIM then (ixN xs.length i).bind fun j => (xs[j]?).map fun y => (y, .lst (xs.eraseIdx j)) else none
    | _ => none
  | _ => none
/-- x[k] = e -/
def setItem (k e : D) : D → Option (Unit × D)
  | .lst xs => match k with
    | .int i => (ixN xs.length i).map fun j => ((), .lst (xs.set j e))
    | _ => none
  | .dic kvs => if askable kvs k && decide (kvs.length < LIM) then some ((), .dic (dput kvs k e)) else none
  | _ => none
/-- x.m(e), x a list -/
def isLst : D → Option Unit
  | .lst _ => some ()
  | _ => none
def sMut (i : Nat) (f : D → D → Option (D × D)) (m : Sem D) : Sem Cell := bind' (s1 (oVar i) isLst) fun _ => bind' m fun e => bind' (change i (f e)) fun d => pure' (.fr d)
/-- x[k] = e: e first, then k -/
def sSetItem (i : Nat) (k : Sem D) (m : Sem D) : Sem Flow := bind' m fun e => bind' (oVar i) fun _ => bind' k fun kd => bind' (change i (setItem kd e)) fun _ => pure' .next

/-! ### loops -/
/-- the items that a for walks -/
def items : D → Option (List D)
  | .lst xs => some xs
  | .klst xs => some xs
  | .tup xs => some xs
  | .str s => some (s.map fun c => .str [c])
  | .dic kvs => some (kvs.map (·.1))
  | _ => none
def rng (lo : Int) (n : Nat) : List D := (List.range n).map fun k => .int (lo + (k : Nat))
def forL (t : Tgt) (body : Sem Flow) : List D → Sem Flow
  | [] => pure' .next
  | d :: ds => bind' (storeS t d) fun _ => bind' body fun f => match f with
    | .next => forL t body ds
    | .cont => forL t body ds
    | .brk => pure' .next
    | .ret c => pure' (.ret c)
def sFor (t : Tgt) (it : Sem (List D)) (body : Sem Flow) : Sem Flow := bind' it (forL t body)
def whileL (c : Sem Bool) (body : Sem Flow) : Nat → Sem Flow
  | 0 => fun _ => .bad
  | n + 1 => bind' c fun k => match k with
    | true => bind' body fun f => match f with
      | .next => whileL c body n
      | .cont => whileL c body n
      | .brk => pure' .next
      | .ret c => pure' (.ret c)
    | false => pure' .next
/-- what a for walks: data; range(n), range(a, b) -/
def iSeq (m : Sem D) : Sem (List D) := bind' m fun d => opt (items d)
def iRange1 (m : Sem Opd) : Sem (List D) := s1 m fun d => match d with
  | .int n => if -(2 ^ 62) ≤ n ∧ n < 2 ^ 62 then some (rng 0 n.toNat) else none
  | _ => none
def iRange2 (a b : Sem Opd) : Sem (List D) := s2 a b fun d e => match d, e with
  | .int lo, .int hi => if (-(2 ^ 62) ≤ lo ∧ lo < 2 ^ 62) ∧ (-(2 ^ 62) ≤ hi ∧ hi < 2 ^ 62) then some (rng lo (hi - lo).toNat) else none
  | _, _ => none

/-! ### comprehensions -/
def wipe (ρ : Env) : List Nat → Env
  | [] => ρ
  | i :: is => (wipe ρ is).set i .no
/-- a comprehension's own names may stand for names of the def around: these keep what they hold -/
def restore (ρ0 ρ : Env) : List Nat → Env
  | [] => ρ
  | i :: is => (restore ρ0 ρ is).set i ((ρ0[i]?).getD .no)
def calmAt (ρ : Env) (own : List Nat) : Bool := own.all fun i => match ρ[i]? with
  | some .no => true
  | some (.fr _) => true
  | _ => false
def compL (own : List Nat) (t : Tgt) (c : Sem Bool) (elt : Sem D) : List D → List D → Sem (List D)
  | [], acc, ρ => .ok acc ρ
  | d :: ds, acc, ρ => match store t d (wipe ρ own) with
    | none => .bad
    | some ρ1 => match c ρ1 with
      | .ok true ρ2 => (match elt ρ2 with
        | .ok x ρ3 => if acc.length < LIM ∧ calmAt ρ3 own = true then compL own t c elt ds (acc ++ [x]) ρ3 else .bad
        | _ => .bad)
      | .ok false ρ2 => if calmAt ρ2 own = true then compL own t c elt ds acc ρ2 else .bad
      | _ => .bad
def sYes : Sem Bool := fun ρ => .ok true ρ
def sComp (own : List Nat) (t : Tgt) (it : Sem (List D)) (c : Sem Bool) (elt : Sem D) : Sem Cell := fun ρ => match it ρ with
  | .ok ds ρ1 => if calmAt ρ1 own = true then (match compL own t c elt ds [] ρ1 with
      | .ok xs ρ2 => .ok (.ow (.lst xs)) (restore ρ1 ρ2 own)
      | _ => .bad) else .bad
  | .exc x ρ' => .exc x ρ'
  | .bad => .bad

/-! ### defs -/
structure Fn where
  np : Nat
  nio : Nat
  ns : Nat
  body : Ora → Sem Flow
def outs (ρ : Env) : Nat → Nat → Option (List D)
  | _, 0 => some []
  | i, n + 1 => match ρ[i]?, outs ρ (i + 1) n with
    | some (.io d), some ds => some (d :: ds)
    | _, _ => none
/-- a cell that may go out -/
def outC : Cell → Bool
  | .fr _ => true
  | .ow _ => true
  | _ => false
def Fn.run (fn : Fn) (Γ : Ora) (cs : List Cell) : CR :=
  if cs.length = fn.np then
    match fn.body Γ (cs ++ List.replicate (fn.ns - fn.np) .no) with
    | .ok (.ret c) ρ => (match outs ρ 0 fn.nio with | some os => if outC c then .ok c os else .bad | none => .bad)
    | .ok .next ρ => (match outs ρ 0 fn.nio with | some os => .ok (.fr .non) os | none => .bad)
    | .exc x ρ => (match outs ρ 0 fn.nio with | some os => .exc x os | none => .bad)
    | _ => .bad
  else .bad
def callF (fns : Nat → Option Fn) : Nat → Ora
  | 0 => fun _ _ => .bad
  | n + 1 => fun f cs => match fns f with
    | some fn => fn.run (callF fns n) cs
    | none => .bad
end DL
/-! DL, the plain part, 2: sorted, sets that are sorted, join. -/
namespace DL
def ins {α : Type} (le : α → α → Bool) (x : α) : List α → List α
  | [] => [x]
  | y :: ys => if le x y then x :: y :: ys else y :: ins le x ys
def srt {α : Type} (le : α → α → Bool) : List α → List α
  | [] => []
  | x :: xs => ins le x (srt le xs)
def ded1 {α : Type} [DecidableEq α] (acc : List α) (x : α) : List α := if x ∈ acc then acc else acc ++ [x]
/-- once each, in the order in which they are met -/
def ded {α : Type} [DecidableEq α] (xs : List α) : List α := xs.foldl ded1 []
def leI (a b : Int) : Bool := decide (a ≤ b)
def leS (a b : List Nat) : Bool := decide (a ≤ b)
/-- sorted(set(x)) -/
def bSortSet : List D → Option Cell
  | [.lst xs] => if xs.length < 4000 then (match dints xs with
    | some ns => some (.ow (.lst ((srt leI (ded ns)).map D.int)))
    | none => (dstrs xs).map fun ss => .ow (.lst ((srt leS (ded ss)).map D.str))) else none
  | [.str s] => if s.length < 4000 then some (.ow (.lst ((srt leS (ded (s.map fun c => [c]))).map D.str))) else none
  | _ => none
/-- sorted(x) -/
def bSorted : List D → Option Cell
  | [.lst xs] => (match dints xs with
    | some ns => some (.ow (.lst ((srt leI ns).map D.int)))
    | none => (dstrs xs).map fun ss => .ow (.lst ((srt leS ss).map D.str)))
  | _ => none
def joinT (sep : List Nat) : List (List Nat) → List Nat
  | [] => []
  | [p] => p
  | p :: q :: r => p ++ (sep ++ joinT sep (q :: r))
/-- sep.join(x) -/
def bJoin (sep : List Nat) : List D → Option Cell
  | [.lst xs] => (dstrs xs).bind fun ss => if (ss.map List.length).sum + ss.length * sep.length ≤ LIM then some (.fr (.str (joinT sep ss))) else none
  | _ => none
def bJoin1 (sep : List Nat) (d : D) : Option Cell := bJoin sep [d]
/-- list(range(n)) -/
def bListR : List D → Option Cell
  | [.int n] => if 0 ≤ n ∧ n < 2 ^ 24 then some (.ow (.lst (rng 0 n.toNat))) else none
  | _ => none
/-! orders -/
theorem ins_perm {α : Type} (le : α → α → Bool) (x : α) : ∀ xs : List α, (ins le x xs).Perm (x :: xs)
  | [] => .refl _
  | y :: ys => by
    unfold ins
    split
    · exact .refl _
    · exact ((ins_perm le x ys).cons y).trans (.swap x y ys)
theorem srt_perm {α : Type} (le : α → α → Bool) : ∀ xs : List α, (srt le xs).Perm xs
  | [] => .refl _
  | x :: xs => (ins_perm le x _).trans ((srt_perm le xs).cons x)
theorem ins_sorted {α : Type} {le : α → α → Bool} (tot : ∀ a b, le a b = true ∨ le b a = true) (tr : ∀ a b c, le a b = true → le b c = true → le a c = true) (x : α) :
    ∀ xs : List α, xs.Pairwise (fun a b => le a b = true) → (ins le x xs).Pairwise (fun a b => le a b = true)
  | [], _ => by simp [ins]
  | y :: ys, h => by
    obtain ⟨h1, h2⟩ := List.pairwise_cons.mp h
    unfold ins
    split
    · rename_i c
      exact List.pairwise_cons.mpr ⟨fun z hz => by
        rcases List.mem_cons.mp hz with rfl | hz
        · exact c
        · exact tr _ _ _ c (h1 z hz), h⟩
    · rename_i c
      refine List.pairwise_cons.mpr ⟨fun z hz => ?_, ins_sorted tot tr x ys h2⟩
      rcases List.mem_cons.mp ((ins_perm le x ys).mem_iff.mp hz) with rfl | hz
      · exact (tot _ _).resolve_left c
      · exact h1 z hz
theorem srt_sorted {α : Type} {le : α → α → Bool} (tot : ∀ a b, le a b = true ∨ le b a = true) (tr : ∀ a b c, le a b = true → le b c = true → le a c = true) :
    ∀ xs : List α, (srt le xs).Pairwise (fun a b => le a b = true)
  | [] => List.Pairwise.nil
  | x :: xs => ins_sorted tot tr x _ (srt_sorted tot tr xs)
/-- the only sorted arrangement -/
theorem srt_only {α : Type} {le : α → α → Bool} (tot : ∀ a b, le a b = true ∨ le b a = true) (tr : ∀ a b c, le a b = true → le b c = true → le a c = true) (an : ∀ a b, le a b = true → le b a = true → a = b)
    {xs ys : List α} (p : ys.Perm xs) (s : ys.Pairwise fun a b => le a b = true) : ys = srt le xs :=
  List.Perm.eq_of_pairwise (fun a b _ _ h1 h2 => an a b h1 h2) s (srt_sorted tot tr xs) (p.trans (srt_perm le xs).symm)
theorem leI_tot (a b : Int) : leI a b = true ∨ leI b a = true := by simp [leI]; omega
theorem leI_tr (a b c : Int) (h : leI a b = true) (h' : leI b c = true) : leI a c = true := by simp [leI] at *; omega
theorem leI_an (a b : Int) (h : leI a b = true) (h' : leI b a = true) : a = b := by simp [leI] at *; omega
theorem leS_tot (a b : List Nat) : leS a b = true ∨ leS b a = true := by
  unfold leS
  rcases List.le_total a b with h | h
  · exact .inl (by simpa using h)
  · exact .inr (by simpa using h)
theorem leS_tr (a b c : List Nat) (h : leS a b = true) (h' : leS b c = true) : leS a c = true := by
  unfold leS at *
  rw [decide_eq_true_eq] at *
  exact List.le_trans h h'
theorem leS_an (a b : List Nat) (h : leS a b = true) (h' : leS b a = true) : a = b := by
  unfold leS at *
  rw [decide_eq_true_eq] at *
  exact List.le_antisymm h h'
theorem ded_map {α β : Type} [DecidableEq α] [DecidableEq β] {f : α → β} (inj : ∀ a b, f a = f b → a = b) (xs : List α) : ded (xs.map f) = (ded xs).map f := by
  unfold ded
  have : ∀ (ys acc : List α), (ys.map f).foldl ded1 (acc.map f) = (ys.foldl ded1 acc).map f := by
    intro ys
    induction ys with
    | nil => intro acc; rfl
    | cons y ys ih =>
      intro acc
      rw [List.map_cons, List.foldl_cons, List.foldl_cons, ← ih]
      congr 1
      have hm : f y ∈ acc.map f ↔ y ∈ acc := by
        rw [List.mem_map]
        exact ⟨fun ⟨a, h, e⟩ => by rw [← inj a y e]; exact h, fun h => ⟨y, h, rfl⟩⟩
      unfold ded1
      by_cases h : y ∈ acc
      · rw [if_pos h, if_pos (hm.mpr h)]
      · rw [if_neg h, if_neg fun z => h (hm.mp z), List.map_append]; rfl
  exact this xs []
abbrev sBad {α : Type} : Sem α := fun _ => .bad
end DL
/-! DL, the plain part, 3. -/
namespace DL
/-- len(set(x)) -/
def bLenSet : List D → Option Cell
  | [.lst xs] => if xs.length < 4000 then (match dints xs with
    | some ns => some (.fr (.int ((ded ns).length : Nat)))
    | none => (dstrs xs).map fun ss => .fr (.int ((ded ss).length : Nat))) else none
  | [.str s] => if s.length < 4000 then some (.fr (.int ((ded (s.map fun c => [c])).length : Nat))) else none
  | _ => none
end DL
/-! DL, the plain part, 4: sorted by a key, list(a dict), text * n, pairs compared. -/
namespace DL
def leL (a b : List Nat) : Bool := decide (a.length ≤ b.length)
/-- the shorter first; of one length the less -/
def ltO (a b : List Nat) : Bool := decide (a.length < b.length ∨ (a.length = b.length ∧ a < b))
def leO (a b : List Nat) : Bool := !ltO b a
def short (ss : List (List Nat)) : Bool := ss.all fun s => decide (s.length ≤ LIM)
/-- sorted(x, key=len) -/
def bSortLen : List D → Option Cell
  | [.lst xs] => (dstrs xs).bind fun ss => if short ss then some (.ow (.lst ((ss.mergeSort leL).map D.str))) else none
  | _ => none
/-- sorted(x, key=order_of) -/
def bSortOrd : List D → Option Cell
  | [.lst xs] => (dstrs xs).bind fun ss => if short ss then some (.ow (.lst ((ss.mergeSort leO).map D.str))) else none
  | [.dic kvs] => (dstrs (kvs.map (·.1))).bind fun ss => if ss ≠ [] ∧ short ss then some (.ow (.lst ((ss.mergeSort leO).map D.str))) else none
  | _ => none
/-- list(d) of a dict with keys that are ints and texts -/
def bListK : List D → Option Cell
  | [.dic kvs] => if kvs ≠ [] ∧ kvs.all (fun p => key1 p.1) then some (.ow (.lst (kvs.map (·.1)))) else none
  | _ => none
/-- text * n -/
def mulS : D → D → Option Cell
  | .str a, .int j => if 0 ≤ j ∧ j < 2 ^ 10 ∧ a.length < 2 ^ 10 then some (.fr (.str (List.replicate j.toNat a).flatten)) else none
  | _, _ => none
/-- (n, text) < (m, text) -/
def ltP : D → D → Option Bool
  | .tup [.int i, .str a], .tup [.int j, .str b] => some (decide (i < j ∨ (i = j ∧ a < b)))
  | _, _ => none
end DL
namespace DL
/-- {k: v}, k a tuple of ints and texts -/
def dispT : List (D × D) → Option Cell
  | [(k, v)] => if keyT k then some (.ow (.dic [(k, v)])) else none
  | _ => none
def sDispT (k v : Sem D) : Sem Cell := bind' (sPairs [(k, v)]) fun ps => opt (dispT ps)
def sDict0 : Sem Cell := fun ρ => .ok (.ow (.dic [])) ρ
end DL
/-! DL, the plain part, 5: dict comprehensions, d.get(k), dict(a list of pairs). -/
namespace DL
def compD (own : List Nat) (t : Tgt) (c : Sem Bool) (k v : Sem D) : List D → List (D × D) → Env → R (List (D × D))
  | [], acc, ρ => .ok acc ρ
  | d :: ds, acc, ρ => match store t d (wipe ρ own) with
    | none => .bad
    | some ρ1 => match c ρ1 with
      | .ok true ρ2 => (match k ρ2 with
        | .ok x ρ3 => (match v ρ3 with
          | .ok y ρ4 => if acc.length < LIM ∧ key1 x = true ∧ calmAt ρ4 own = true then compD own t c k v ds (dput acc x y) ρ4 else .bad
          | _ => .bad)
        | _ => .bad)
      | .ok false ρ2 => if calmAt ρ2 own = true then compD own t c k v ds acc ρ2 else .bad
      | _ => .bad
def sDComp (own : List Nat) (t : Tgt) (it : Sem (List D)) (c : Sem Bool) (k v : Sem D) : Sem Cell := fun ρ => match it ρ with
  | .ok ds ρ1 => if calmAt ρ1 own = true then (match compD own t c k v ds [] ρ1 with
      | .ok xs ρ2 => .ok (.ow (.dic xs)) (restore ρ1 ρ2 own)
      | _ => .bad) else .bad
  | .exc x ρ' => .exc x ρ'
  | .bad => .bad
def isDic : D → Option Unit
  | .dic _ => some ()
  | _ => none
def dGet (k : D) : D → Option Cell
  | .dic kvs => if kvs ≠ [] ∧ askable kvs k = true then some (.fr ((dget kvs k).getD .non)) else none
  | _ => none
/-- d.get(k) -/
def sGet (i : Nat) (m : Sem D) : Sem Cell := bind' (s1 (oVar i) isDic) fun _ => bind' m fun k => bind' (rdO (.slot i)) fun d => opt (dGet k d)
/-- the pairs of a list of pairs -/
def pairsD : List D → Option (List (D × D))
  | [] => some []
  | .tup [a, b] :: r => (pairsD r).map ((a, b) :: ·)
  | _ :: _ => none
/-- dict(a list of pairs) -/
def bDictP : List D → Option Cell
  | [.lst xs] => (pairsD xs).bind fun ps => if ps.all (fun p => keyT p.1) ∨ ps.all (fun p => key1 p.1) then some (.ow (.dic (ps.foldl (fun acc p => dput acc p.1 p.2) []))) else none
  | _ => none
end DL
/-! DL over the model, 1: what stands for data in the abstract heap; frames; the wish of a step. -/
namespace DL
open PySem PySem.Spec PyProof.Rows L2

abbrev St := L2.St
theorem lim_eq : LIM = sizeLine := by rw [sizeLine_eq]; rfl
abbrev mkS (l : List Nat) : Str := ⟨l.toArray⟩
def unS (x : Str) : List Nat := x.cps.toList
theorem mkS_unS (x : Str) : mkS (unS x) = x := by cases x; simp [mkS, unS]
theorem unS_mkS (l : List Nat) : unS (mkS l) = l := by simp [mkS, unS]
theorem mkS_inj {a b : List Nat} (h : mkS a = mkS b) : a = b := by
  have := congrArg unS h
  rwa [unS_mkS, unS_mkS] at this
theorem unS_inj {a b : Str} (h : unS a = unS b) : a = b := by rw [← mkS_unS a, ← mkS_unS b, h]

def keyD : Key → D
  | .inl i => .int i
  | .inr x => .str (unS x)
theorem keyD_inj {a b : Key} (h : keyD a = keyD b) : a = b := by
  cases a with
  | inl i => cases b with
    | inl j => cases h; rfl
    | inr y => cases h
  | inr x => cases b with
    | inl j => cases h
    | inr y =>
      have : unS x = unS y := by injection h
      rw [unS_inj this]
theorem keyDs_inj : ∀ {a b : List Key}, a.map keyD = b.map keyD → a = b
  | [], [], _ => rfl
  | [], _ :: _, h => by cases h
  | _ :: _, [], h => by cases h
  | x :: xs, y :: ys, h => by
    rw [List.map_cons, List.map_cons] at h
    injection h with h1 h2
    rw [keyD_inj h1, keyDs_inj h2]

def KLst (K : PySem.W.Frag) (a : Addr) (vs : List V) : Prop := ∃ (o : Obj) (its : Array Value) (n : Nat), K.lookup a = some o ∧ o.cls = .type "list" ∧ o.dict = none ∧ o.data = .seq its n ∧ its.size ≤ sizeLine ∧ Vals vs its.toList
def TpF (_ : PySem.W.Frag) (F : Addr → Prop) (H : Hp) (a : Addr) (vs : List V) : Prop := F a ∧ H a = some (.tup vs)
section
variable (K : PySem.W.Frag) (F : Addr → Prop) (H : Hp)
def SqF (a : Addr) (vs : List V) : Prop := F a ∧ Rd H a (.lst vs)
/-- a dict as pairs of a key, as data, and a value -/
inductive DView (a : Addr) : List (D × V) → Prop
  | k {kvs : List (Key × V)} : Rd H a (.dK kvs) → DView a (kvs.map fun p => (keyD p.1, p.2))
  | t {kvs : List (List Key × V)} : Rd H a (.dT kvs) → DView a (kvs.map fun p => (.tup (p.1.map keyD), p.2))
mutual
/-- v stands for the data d; what it reads never changes (F) -/
inductive RepD : V → D → Prop
  | non : RepD .non .non
  | bl (b : Bool) : RepD (.bl b) (.bl b)
  | int (i : Int) : RepD (.int i) (.int i)
  | str (s : List Nat) : RepD (.str (mkS s)) (.str s)
  | lst {a : Addr} {vs : List V} {ds : List D} : SqF F H a vs → RepL vs ds → RepD (.ref a) (.lst ds)
  | tup {a : Addr} {vs : List V} {ds : List D} : TpF K F H a vs → RepL vs ds → RepD (.ref a) (.tup ds)
  | dic {a : Addr} {ps : List (D × V)} {kvs : List (D × D)} : F a → DView H a ps → RepP ps kvs → RepD (.ref a) (.dic kvs)
  | klst {a : Addr} {vs : List V} {ds : List D} : SqF F H a vs ∨ KLst K a vs → RepL vs ds → RepD (.ref a) (.klst ds)
inductive RepL : List V → List D → Prop
  | nil : RepL [] []
  | cons {v : V} {d : D} {vs : List V} {ds : List D} : RepD v d → RepL vs ds → RepL (v :: vs) (d :: ds)
inductive RepP : List (D × V) → List (D × D) → Prop
  | nil : RepP [] []
  | cons {k : D} {v : V} {d : D} {ps : List (D × V)} {qs : List (D × D)} : RepD v d → RepP ps qs → RepP ((k, v) :: ps) ((k, d) :: qs)
end
end

section
variable {K : PySem.W.Frag} {F F' F1 F2 : Addr → Prop} {H H' H1 H2 : Hp}
theorem TpF.sq {a : Addr} {vs : List V} (h : TpF K F H a vs) : SqT K H a vs := SqT.of h.2
/-- frozen things are read as before -/
def Keep (F : Addr → Prop) (H H' : Hp) : Prop := ∀ a, F a → H' a = H a ∨ ∃ o u, H a = some u ∧ Mut (some u) ∧ H' a = some (.frz o u)
theorem Keep.refl : Keep F H H := fun _ _ => .inl rfl
theorem Keep.rd (k : Keep F H H') {a : Addr} {u : HO} (f : F a) (h : Rd H a u) : Rd H' a u := by
  rcases k a f with e | ⟨o, w, e1, m, e2⟩
  · rcases h with h | ⟨o, h⟩
    · exact .inl (e.trans h)
    · exact .inr ⟨o, e.trans h⟩
  · rcases h with h | ⟨o', h⟩
    · rw [h] at e1; cases e1; exact .inr ⟨o, e2⟩
    · rw [h] at e1; cases e1; exact m.elim
theorem Keep.tup (k : Keep F H H') {a : Addr} {xs : List V} (f : F a) (h : H a = some (.tup xs)) : H' a = some (.tup xs) := by
  rcases k a f with e | ⟨o, w, e1, m, e2⟩
  · exact e.trans h
  · rw [h] at e1; cases e1; exact m.elim
theorem Keep.trans (hF : ∀ a, F a → F' a) (k : Keep F H H') (k' : Keep F' H' H1) : Keep F H H1 := fun a f => by
  rcases k a f with e | ⟨o, w, e1, m, e2⟩
  · rcases k' a (hF a f) with e' | ⟨o, w, e1, m, e2⟩
    · exact .inl (e'.trans e)
    · exact .inr ⟨o, w, e ▸ e1, m, e2⟩
  · rcases k' a (hF a f) with e' | ⟨o', w', e1', m', e2'⟩
    · exact .inr ⟨o, w, e1, m, e'.trans e2⟩
    · rw [e2] at e1'; cases e1'; exact m'.elim
theorem DView.keep {a : Addr} {ps : List (D × V)} (v : DView H a ps) (hf : F a) (k : Keep F H H') : DView H' a ps := by
  cases v with
  | k h => exact .k (k.rd hf h)
  | t h => exact .t (k.rd hf h)
mutual
theorem RepD.mono (hF : ∀ a, F a → F' a) (k : Keep F H H') : ∀ {v d}, RepD K F H v d → RepD K F' H' v d
  | _, _, .non => .non
  | _, _, .bl b => .bl b
  | _, _, .int i => .int i
  | _, _, .str s => .str s
  | _, _, .lst s r => .lst ⟨hF _ s.1, k.rd s.1 s.2⟩ (RepL.mono hF k r)
  | _, _, .tup s r => .tup ⟨hF _ s.1, k.tup s.1 s.2⟩ (RepL.mono hF k r)
  | _, _, .dic f v r => .dic (hF _ f) (v.keep f k) (RepP.mono hF k r)
  | _, _, .klst s r => .klst (s.imp (fun s => ⟨hF _ s.1, k.rd s.1 s.2⟩) id) (RepL.mono hF k r)
theorem RepL.mono (hF : ∀ a, F a → F' a) (k : Keep F H H') : ∀ {v d}, RepL K F H v d → RepL K F' H' v d
  | _, _, .nil => .nil
  | _, _, .cons a b => .cons (RepD.mono hF k a) (RepL.mono hF k b)
theorem RepP.mono (hF : ∀ a, F a → F' a) (k : Keep F H H') : ∀ {v d}, RepP K F H v d → RepP K F' H' v d
  | _, _, .nil => .nil
  | _, _, .cons a b => .cons (RepD.mono hF k a) (RepP.mono hF k b)
end
theorem RepL.length : ∀ {vs ds}, RepL K F H vs ds → vs.length = ds.length
  | _, _, .nil => rfl
  | _, _, .cons _ t => congrArg (· + 1) (RepL.length t)
theorem RepL.get : ∀ {vs : List V} {ds : List D} {i : Nat} {d : D}, RepL K F H vs ds → ds[i]? = some d → ∃ v, vs[i]? = some v ∧ RepD K F H v d
  | _, _, _, _, .nil, h => by simp at h
  | _, _, 0, _, .cons a _, h => by simp at h; subst h; exact ⟨_, rfl, a⟩
  | _, _, i + 1, d, .cons _ t, h => by
    obtain ⟨v, h1, h2⟩ := RepL.get (i := i) (d := d) t (by simpa using h)
    exact ⟨v, by simpa using h1, h2⟩
theorem RepL.append : ∀ {vs ws : List V} {ds es : List D}, RepL K F H vs ds → RepL K F H ws es → RepL K F H (vs ++ ws) (ds ++ es)
  | _, _, _, _, .nil, r => r
  | _, _, _, _, .cons a t, r => .cons a (RepL.append t r)
theorem RepL.take : ∀ {vs : List V} {ds : List D} (n : Nat), RepL K F H vs ds → RepL K F H (vs.take n) (ds.take n)
  | _, _, 0, _ => by simp only [List.take_zero]; exact .nil
  | _, _, _ + 1, .nil => .nil
  | _, _, n + 1, .cons a t => .cons a (RepL.take n t)
theorem RepL.drop : ∀ {vs : List V} {ds : List D} (n : Nat), RepL K F H vs ds → RepL K F H (vs.drop n) (ds.drop n)
  | _, _, 0, r => r
  | _, _, _ + 1, .nil => .nil
  | _, _, n + 1, .cons _ t => RepL.drop n t
theorem RepL.set : ∀ {vs : List V} {ds : List D} {v : V} {d : D} (n : Nat), RepD K F H v d → RepL K F H vs ds → RepL K F H (vs.set n v) (ds.set n d)
  | _, _, _, _, _, _, .nil => .nil
  | _, _, _, _, 0, r, .cons _ t => .cons r t
  | _, _, _, _, n + 1, r, .cons a t => .cons a (RepL.set n r t)
theorem RepL.erase : ∀ {vs : List V} {ds : List D} (n : Nat), RepL K F H vs ds → RepL K F H (vs.eraseIdx n) (ds.eraseIdx n)
  | _, _, _, .nil => .nil
  | _, _, 0, .cons _ t => t
  | _, _, n + 1, .cons a t => .cons a (RepL.erase n t)
theorem RepL.flat : ∀ {vs : List V} {ds : List D} (n : Nat), RepL K F H vs ds → RepL K F H (List.replicate n vs).flatten (List.replicate n ds).flatten
  | _, _, 0, _ => .nil
  | _, _, n + 1, r => by
    rw [List.replicate_succ, List.replicate_succ, List.flatten_cons, List.flatten_cons]
    exact r.append (RepL.flat n r)
theorem RepP.length : ∀ {ps qs}, RepP K F H ps qs → ps.length = qs.length
  | _, _, .nil => rfl
  | _, _, .cons _ t => congrArg (· + 1) (RepP.length t)

/-! ### what a name's own object is -/
/-- at a stands an object that one name holds -/
inductive OwnR (K : PySem.W.Frag) (F : Addr → Prop) (H : Hp) (a : Addr) : D → Prop
  | lst {vs : List V} {ds : List D} : H a = some (.lst vs) → RepL K F H vs ds → OwnR K F H a (.lst ds)
  | dk {kvs : List (Key × V)} {qs : List (D × D)} : H a = some (.dK kvs) → RepP K F H (kvs.map fun p => (keyD p.1, p.2)) qs → OwnR K F H a (.dic qs)
  | dt {kvs : List (List Key × V)} {qs : List (D × D)} : H a = some (.dT kvs) → RepP K F H (kvs.map fun p => (.tup (p.1.map keyD), p.2)) qs → OwnR K F H a (.dic qs)
theorem OwnR.some {a : Addr} {d : D} (o : OwnR K F H a d) : ∃ u, H a = some u ∧ Mut (some u) := by
  cases o with
  | lst h _ => exact ⟨_, h, trivial⟩
  | dk h _ => exact ⟨_, h, trivial⟩
  | dt h _ => exact ⟨_, h, trivial⟩
theorem OwnR.mono {a : Addr} {d : D} (o : OwnR K F H a d) (hF : ∀ a, F a → F' a) (k : Keep F H H') (ha : H' a = H a) : OwnR K F' H' a d := by
  cases o with
  | lst h r => exact .lst (ha.trans h) (r.mono hF k)
  | dk h r => exact .dk (ha.trans h) (r.mono hF k)
  | dt h r => exact .dt (ha.trans h) (r.mono hF k)
/-- it never changes from here on -/
theorem OwnR.frozen {a : Addr} {d : D} (o : OwnR K F H a d) (hF : ∀ a, F a → F' a) (ha : F' a) : RepD K F' H (.ref a) d := by
  have k : Keep F H H := Keep.refl
  cases o with
  | lst h r => exact .lst ⟨ha, .inl h⟩ (r.mono hF k)
  | dk h r => exact .dic ha (.k (.inl h)) (r.mono hF k)
  | dt h r => exact .dic ha (.t (.inl h)) (r.mono hF k)
/-- it can be read now -/
def RdR (K : PySem.W.Frag) (F : Addr → Prop) (H : Hp) (v : V) (d : D) : Prop := RepD K F H v d ∨ ∃ a, v = .ref a ∧ OwnR K F H a d
theorem RdR.lst {v : V} {ds : List D} (h : RdR K F H v (.lst ds)) : ∃ a vs, v = .ref a ∧ Rd H a (.lst vs) ∧ RepL K F H vs ds := by
  rcases h with h | ⟨a, rfl, h⟩
  · cases h with
    | lst s r => exact ⟨_, _, rfl, s.2, r⟩
  · cases h with
    | lst h r => exact ⟨_, _, rfl, .inl h, r⟩
theorem RdR.klst {v : V} {ds : List D} (h : RdR K F H v (.klst ds)) : ∃ a vs, v = .ref a ∧ SqL K H a vs ∧ RepL K F H vs ds := by
  rcases h with h | ⟨a, rfl, h⟩
  · cases h with
    | klst s r => exact ⟨_, _, rfl, s.imp (fun s => s.2) id, r⟩
  · cases h
theorem RdR.tup {v : V} {ds : List D} (h : RdR K F H v (.tup ds)) : ∃ a vs, v = .ref a ∧ SqT K H a vs ∧ RepL K F H vs ds := by
  rcases h with h | ⟨a, rfl, h⟩
  · cases h with
    | tup s r => exact ⟨_, _, rfl, s.sq, r⟩
  · cases h
theorem RdR.dic {v : V} {qs : List (D × D)} (h : RdR K F H v (.dic qs)) : ∃ a ps, v = .ref a ∧ DView H a ps ∧ RepP K F H ps qs := by
  rcases h with h | ⟨a, rfl, h⟩
  · cases h with
    | dic f s r => exact ⟨_, _, rfl, s, r⟩
  · cases h with
    | dk h r => exact ⟨_, _, rfl, .k (.inl h), r⟩
    | dt h r => exact ⟨_, _, rfl, .t (.inl h), r⟩
theorem RdR.int {v : V} {i : Int} (h : RdR K F H v (.int i)) : v = .int i := by
  rcases h with h | ⟨a, rfl, h⟩
  · cases h; rfl
  · cases h
theorem RdR.bl {v : V} {i : Bool} (h : RdR K F H v (.bl i)) : v = .bl i := by
  rcases h with h | ⟨a, rfl, h⟩
  · cases h; rfl
  · cases h
theorem RdR.str {v : V} {i : List Nat} (h : RdR K F H v (.str i)) : v = .str (mkS i) := by
  rcases h with h | ⟨a, rfl, h⟩
  · cases h; rfl
  · cases h
theorem RdR.non {v : V} (h : RdR K F H v .non) : v = .non := by
  rcases h with h | ⟨a, rfl, h⟩
  · cases h; rfl
  · cases h

/-! ### a frame -/
/-- the objects that names hold; true: lent by the caller -/
abbrev Ow := Nat → Option (Addr × Bool)
def CellR (K : PySem.W.Frag) (F : Addr → Prop) (H : Hp) (o : Option (Addr × Bool)) (c : Cell) (v : Option (Option V)) : Prop := match c with
  | .no => o = none
  | .fr d => o = none ∧ ∃ u, v = some (some u) ∧ RepD K F H u d
  | .ow d => ∃ a, o = some (a, false) ∧ v = some (some (.ref a)) ∧ OwnR K F H a d
  | .io d => ∃ a, o = some (a, true) ∧ v = some (some (.ref a)) ∧ OwnR K F H a d
structure ER (K : PySem.W.Frag) (F : Addr → Prop) (H : Hp) (own : Ow) (ρ : Env) (σ : St) : Prop where
  len : ρ.length = σ.length
  fdom : ∀ a, F a → H a ≠ none
  at_ : ∀ i c, ρ[i]? = some c → CellR K F H (own i) c σ[i]?
  out : ∀ i, ρ[i]? = none → own i = none
  inj : ∀ i j a t u, own i = some (a, t) → own j = some (a, u) → i = j
  nf : ∀ i a t, own i = some (a, t) → ¬ F a
/-- what a step leaves -/
structure Stp (F : Addr → Prop) (H : Hp) (own : Ow) (F' : Addr → Prop) (H' : Hp) (own' : Ow) : Prop where
  mono : ∀ a, F a → F' a
  rd : Keep F H H'
  keep : ∀ a o, H a = some o → ¬ F a → (∀ i t, own i ≠ some (a, t)) → H' a = some o
  newF : ∀ a, F' a → F a ∨ H a = none ∨ (∃ i t, own i = some (a, t)) ∨ ∃ xs, H a = some (.tup xs)
  newO : ∀ i a t, own' i = some (a, t) → own i = some (a, t) ∨ (H a = none ∧ t = false)
  dom : ∀ a, H a ≠ none → H' a ≠ none
theorem Stp.refl {own : Ow} : Stp F H own F H own := ⟨fun _ h => h, Keep.refl, fun _ _ h _ _ => h, fun _ h => .inl h, fun i a t h => .inl h, fun _ h => h⟩
theorem Stp.trans {o1 o2 o3 : Ow} (a : Stp F H o1 F1 H1 o2) (b : Stp F1 H1 o2 F2 H2 o3) : Stp F H o1 F2 H2 o3 where
  mono := fun x h => b.mono x (a.mono x h)
  rd := a.rd.trans a.mono b.rd
  keep := fun x o h hf ho => by
    have nn : H x ≠ none := by rw [h]; exact fun z => by cases z
    by_cases z1 : F1 x
    · rcases a.newF x z1 with q | q | ⟨i, t, q⟩ | ⟨xs, q⟩
      · exact (hf q).elim
      · exact (nn q).elim
      · exact (ho i t q).elim
      · rw [h] at q; cases q; exact b.rd.tup z1 (a.keep x _ h hf ho)
    refine b.keep x o (a.keep x o h hf ho) z1 fun i t z => ?_
    · rcases a.newO i x t z with q | ⟨q, _⟩
      · exact ho i t q
      · exact nn q
  newF := fun x h => by
    rcases b.newF x h with q | q | ⟨i, t, q⟩ | ⟨xs, q⟩
    · exact a.newF x q
    · exact .inr (.inl (Classical.byContradiction fun z => a.dom x z q))
    · rcases a.newO i x t q with r | ⟨r, _⟩
      · exact .inr (.inr (.inl ⟨i, t, r⟩))
      · exact .inr (.inl r)
    · by_cases z1 : F x
      · exact .inl z1
      by_cases z2 : ∃ i t, o1 i = some (x, t)
      · exact .inr (.inr (.inl z2))
      cases hx : H x with
      | none => exact .inr (.inl rfl)
      | some o =>
        have := a.keep x o hx z1 fun i t z => z2 ⟨i, t, z⟩
        rw [q] at this; cases this
        exact .inr (.inr (.inr ⟨xs, rfl⟩))
  newO := fun i x t h => by
    rcases b.newO i x t h with q | ⟨q, e⟩
    · exact a.newO i x t q
    · exact .inr ⟨Classical.byContradiction fun z => a.dom x z q, e⟩
  dom := fun x h => b.dom x (a.dom x h)
theorem Stp.fresh {o1 o2 : Ow} (a : Stp F H o1 F1 H1 o2) {x : Addr} (h : H1 x = none) : H x = none := Classical.byContradiction fun z => a.dom x z h
/-- what reads F alone is as before -/
theorem RepD.step {o1 o2 : Ow} {v : V} {d : D} (r : RepD K F H v d) (s : Stp F H o1 F1 H1 o2) : RepD K F1 H1 v d := r.mono s.mono s.rd
theorem RepL.step {o1 o2 : Ow} {v : List V} {d : List D} (r : RepL K F H v d) (s : Stp F H o1 F1 H1 o2) : RepL K F1 H1 v d := r.mono s.mono s.rd

/-- a new object comes beside; it is not held by a name -/
theorem ER.new {own : Ow} {ρ : Env} {σ : St} {p : Addr} {u : HO} (e : ER K F H own ρ σ) (hp : H p = none) : ER K F (upd H p u) own ρ σ := by
  have kp : Keep F H (upd H p u) := fun a f => .inl (upd_ne fun z => e.fdom a f (z ▸ hp))
  have ho : ∀ {a d}, OwnR K F H a d → OwnR K F (upd H p u) a d := fun {a d} o => by
    obtain ⟨w, hw, _⟩ := o.some
    exact o.mono (fun _ h => h) kp (upd_ne (ne_of_none hw hp))
  refine ⟨e.len, fun a f => ?_, fun i c h => ?_, e.out, e.inj, e.nf⟩
  · have : a ≠ p := fun z => e.fdom a f (z ▸ hp)
    rw [upd_ne this]; exact e.fdom a f
  · have q := e.at_ i c h
    cases c with
    | no => exact q
    | fr d => exact ⟨q.1, q.2.imp fun w r => ⟨r.1, r.2.mono (fun _ h => h) kp⟩⟩
    | ow d => exact q.imp fun a r => ⟨r.1, r.2.1, ho r.2.2⟩
    | io d => exact q.imp fun a r => ⟨r.1, r.2.1, ho r.2.2⟩
theorem Stp.new {own : Ow} {p : Addr} {u : HO} (hf : ∀ a, F a → H a ≠ none) (hp : H p = none) : Stp F H own F (upd H p u) own := by
  refine ⟨fun _ h => h, fun a f => .inl (upd_ne fun z => hf a f (z ▸ hp)), fun a o h _ _ => by rw [upd_ne (ne_of_none h hp)]; exact h, fun _ h => .inl h, fun i a t h => .inl h, fun a h => ?_⟩
  · by_cases z : a = p
    · subst z; rw [upd_same]; exact fun q => by cases q
    · rw [upd_ne z]; exact h
/-- more is frozen: nothing that a name holds -/
theorem ER.more {own : Ow} {ρ : Env} {σ : St} (e : ER K F H own ρ σ) (hF : ∀ a, F a → F' a) (hd : ∀ a, F' a → H a ≠ none) (hn : ∀ i a t, own i = some (a, t) → ¬ F' a) : ER K F' H own ρ σ := by
  have kp : Keep F H H := Keep.refl
  refine ⟨e.len, hd, fun i c h => ?_, e.out, e.inj, hn⟩
  have q := e.at_ i c h
  cases c with
  | no => exact q
  | fr d => exact ⟨q.1, q.2.imp fun w r => ⟨r.1, r.2.mono hF kp⟩⟩
  | ow d => exact q.imp fun a r => ⟨r.1, r.2.1, r.2.2.mono hF kp rfl⟩
  | io d => exact q.imp fun a r => ⟨r.1, r.2.1, r.2.2.mono hF kp rfl⟩
/-- a name whose object is frozen, or forgotten -/
theorem ER.set {own : Ow} {ρ : Env} {σ : St} (e : ER K F H own ρ σ) (hF : ∀ a, F a → F' a) (hd : ∀ a, F' a → H a ≠ none) {i : Nat} {c : Cell}
    (hn : ∀ j a t, j ≠ i → own j = some (a, t) → ¬ F' a) (hc : CellR K F' H none c σ[i]?) : ER K F' H (fun j => if j = i then none else own j) (ρ.set i c) σ := by
  have kp : Keep F H H := Keep.refl
  refine ⟨by rw [List.length_set]; exact e.len, hd, fun j c' h => ?_, fun j h => ?_, fun j k a t u h1 h2 => ?_, fun j a t h => ?_⟩
  · by_cases hj : j = i
    · subst hj
      have hl : j < ρ.length := by
        have := (List.getElem?_eq_some_iff.mp h).1
        rwa [List.length_set] at this
      rw [List.getElem?_set_self hl] at h
      cases h
      rw [if_pos rfl]; exact hc
    · rw [List.getElem?_set_ne (Ne.symm hj)] at h
      rw [if_neg hj]
      have q := e.at_ j c' h
      cases c' with
      | no => exact q
      | fr d => exact ⟨q.1, q.2.imp fun w r => ⟨r.1, r.2.mono hF kp⟩⟩
      | ow d => exact q.imp fun a r => ⟨r.1, r.2.1, r.2.2.mono hF kp rfl⟩
      | io d => exact q.imp fun a r => ⟨r.1, r.2.1, r.2.2.mono hF kp rfl⟩
  · by_cases hj : j = i
    · rw [if_pos hj]
    · rw [if_neg hj]
      rw [List.getElem?_set_ne (Ne.symm hj)] at h
      exact e.out j h
  · by_cases hj : j = i
    · rw [if_pos hj] at h1; cases h1
    · by_cases hk : k = i
      · rw [if_pos hk] at h2; cases h2
      · rw [if_neg hj] at h1; rw [if_neg hk] at h2
        exact e.inj j k a t u h1 h2
  · by_cases hj : j = i
    · rw [if_pos hj] at h; cases h
    · rw [if_neg hj] at h; exact hn j a t hj h
/-- what a looked at name holds can be read -/
theorem ER.rd {own : Ow} {ρ : Env} {σ : St} (e : ER K F H own ρ σ) {i : Nat} {d : D} (h : (ρ[i]?).bind Cell.dat = some d) : ∃ v, σ[i]? = some (some v) ∧ RdR K F H v d := by
  cases hc : ρ[i]? with
  | none => rw [hc] at h; cases h
  | some c =>
    rw [hc] at h
    have q := e.at_ i c hc
    cases c with
    | no => cases h
    | fr d' => cases h; obtain ⟨_, u, hu, r⟩ := q; exact ⟨u, hu, .inl r⟩
    | ow d' => cases h; obtain ⟨a, _, hu, r⟩ := q; exact ⟨_, hu, .inr ⟨a, rfl, r⟩⟩
    | io d' => cases h; obtain ⟨a, _, hu, r⟩ := q; exact ⟨_, hu, .inr ⟨a, rfl, r⟩⟩

/-! ### the wish of a step -/
/-- what an own exception is: its class (clsV), the dict that holds at -/
def ExR (clsV : Nat → Value) (K : PySem.W.Frag) (F : Addr → Prop) (H : Hp) (x : Exc) (c : Value) (d : Option Addr) : Prop :=
  c = clsV x.cls ∧ ∃ dd fs v, d = some dd ∧ H dd = some (.xd fs) ∧ fs.lookup ("at" : Str) = some v ∧ RepD K F H v x.val ∧ fs.lookup ("name" : Str) = some (.str (mkS x.name))
abbrev RelT (α β : Type) := (Addr → Prop) → Hp → Hp → Ow → St → β → α → Prop
section
variable {α β γ δ : Type}
/-- the wish of a step at a frame -/
def wpS (clsV : Nat → Value) (K : PySem.W.Frag) (W : WX) (Rel : RelT α β) (m : Sem α) (ρ : Env) (F : Addr → Prop) (own : Ow) (σ : St) (H : Hp) (Q : β → Hp → Prop) : Prop := match m ρ with
  | .ok a ρ' => ∀ b F' H' own', ER K F' H' own' ρ' σ → Stp F H own F' H' own' → Rel F' H H' own' σ b a → Q b H'
  | .exc x ρ' => ∀ c d F' H' own', ER K F' H' own' ρ' σ → Stp F H own F' H' own' → ExR clsV K F' H' x c d → W c d σ H'
  | .bad => False
/-- the reading of a step -/
def tG (clsV : Nat → Value) (K : PySem.W.Frag) (W : WX) (Rel : RelT α β) (m : Sem α) : St → Hp → (β → Hp → Prop) → Prop := fun σ H Q =>
  ∃ ρ F own, ER K F H own ρ σ ∧ wpS clsV K W Rel m ρ F own σ H Q
/-- the relation asks less of an earlier heap -/
structure Back (Rel : RelT α β) : Prop where
  run : ∀ {F : Addr → Prop} {H : Hp} {own : Ow} {F1 : Addr → Prop} {H1 : Hp} {o1 : Ow} {F2 : Addr → Prop} {H2 : Hp} {o2 : Ow} {σ : St} {b : β} {a : α}, Stp F H own F1 H1 o1 → Rel F2 H1 H2 o2 σ b a → Rel F2 H H2 o2 σ b a
def relC (K : PySem.W.Frag) : RelT Cell V := fun F' H H' own' _ v c => match c with
  | .fr d => RepD K F' H' v d
  | .ow d => ∃ a, v = .ref a ∧ H a = none ∧ ¬ F' a ∧ (∀ i t, own' i ≠ some (a, t)) ∧ OwnR K F' H' a d
  | _ => False
def relD (K : PySem.W.Frag) : RelT D V := fun F' _ H' _ _ v d => RepD K F' H' v d
def relO (K : PySem.W.Frag) : RelT Opd V := fun F' _ H' _ σ v o => match o with
  | .val d => RepD K F' H' v d
  | .slot i => σ[i]? = some (some v)
def relE {α : Type} : RelT α α := fun _ _ _ _ _ b a => b = a
def relL (K : PySem.W.Frag) : RelT (List D) (List V) := fun F' _ H' _ _ v d => RepL K F' H' v d
inductive OpdsR (K : PySem.W.Frag) (F : Addr → Prop) (H : Hp) (σ : St) : List V → List Opd → Prop
  | nil : OpdsR K F H σ [] []
  | cons {v vs o os} : relO K F H H (fun _ => none) σ v o → OpdsR K F H σ vs os → OpdsR K F H σ (v :: vs) (o :: os)
def relOs (K : PySem.W.Frag) : RelT (List Opd) (List V) := fun F' _ H' _ σ v d => OpdsR K F' H' σ v d
theorem back_C : Back (relC K) := ⟨fun {_ _ _ _ _ _ _ _ _ _ b a} s r => by
  cases a with
  | ow d => obtain ⟨x, h1, h2, h3⟩ := r; exact ⟨x, h1, s.fresh h2, h3⟩
  | fr d => exact r
  | no => exact r
  | io d => exact r⟩
theorem back_D : Back (relD K) := ⟨fun _ r => r⟩
theorem back_O : Back (relO K) := ⟨fun {_ _ _ _ _ _ _ _ _ _ b a} _ r => by cases a <;> exact r⟩
theorem back_E {α : Type} : Back (relE (α := α)) := ⟨fun _ r => r⟩
theorem back_L : Back (relL K) := ⟨fun _ r => r⟩
theorem back_Os : Back (relOs K) := ⟨fun _ r => r⟩
theorem relO.step {own o1 : Ow} {σ : St} {v : V} {o : Opd} (r : relO K F H1 H own σ v o) (s : Stp F H own F' H' o1) : relO K F' H2 H' o1 σ v o := by
  cases o with
  | val d => exact (show RepD K F H v d from r).step s
  | slot i => exact r
theorem OpdsR.step {own o1 : Ow} {σ : St} : ∀ {vs : List V} {os : List Opd}, OpdsR K F H σ vs os → Stp F H own F' H' o1 → OpdsR K F' H' σ vs os
  | _, _, .nil, _ => .nil
  | _, _, .cons (v := v) (o := o) a t, s => .cons (by
      cases o with
      | val d => exact (show RepD K F H v d from a).step s
      | slot i => exact a) (OpdsR.step t s)
variable {clsV : Nat → Value} {W : WX} {Rel1 : RelT α β} {Rel : RelT γ δ} {own : Ow} {ρ : Env} {σ : St}
theorem wpS.cut {m : Sem γ} {Q : δ → Hp → Prop} {o1 : Ow} (s : Stp F H own F1 H1 o1) (bk : Back Rel) {ρ1 : Env}
    (h : ∀ b F' H' own', (∃ a ρ', m ρ1 = .ok a ρ' ∧ ER K F' H' own' ρ' σ ∧ Stp F H own F' H' own' ∧ Rel F' H H' own' σ b a) → Q b H') (hx : ∀ x ρ', m ρ1 = .exc x ρ' → ∀ c d F' H' own', ER K F' H' own' ρ' σ → Stp F H own F' H' own' → ExR clsV K F' H' x c d → W c d σ H') (hb : m ρ1 ≠ .bad) : wpS clsV K W Rel m ρ1 F1 o1 σ H1 Q := by
  unfold wpS
  cases e : m ρ1 with
  | ok a ρ' => exact fun b F' H' own' er st r => h b F' H' own' ⟨a, ρ', e, er, s.trans st, bk.run s r⟩
  | exc x ρ' => exact fun c d F' H' own' er st r => hx x ρ' e c d F' H' own' er (s.trans st) r
  | bad => exact hb e
/-- a step, then the rest -/
theorem wpS.bind {m : Sem α} {f : α → Sem γ} {Q : δ → Hp → Prop} (bk : Back Rel) (e : ER K F H own ρ σ) (h : wpS clsV K W Rel (bind' m f) ρ F own σ H Q) :
    tG clsV K W Rel1 m σ H fun b H1 => ∃ a ρ1 F1 o1, ER K F1 H1 o1 ρ1 σ ∧ Stp F H own F1 H1 o1 ∧ Rel1 F1 H H1 o1 σ b a ∧ wpS clsV K W Rel (f a) ρ1 F1 o1 σ H1 Q := by
  refine ⟨ρ, F, own, e, ?_⟩
  unfold wpS at h ⊢
  unfold bind' at h
  cases em : m ρ with
  | ok a ρ1 =>
    rw [em] at h
    intro b F1 H1 o1 er st r
    refine ⟨a, ρ1, F1, o1, er, st, r, ?_⟩
    show wpS clsV K W Rel (f a) ρ1 F1 o1 σ H1 Q
    unfold wpS
    dsimp only at h
    cases ef : f a ρ1 with
    | ok c ρ2 => rw [ef] at h; exact fun b2 F2 H2 o2 er2 st2 r2 => h b2 F2 H2 o2 er2 (st.trans st2) (bk.run st r2)
    | exc x ρ2 => rw [ef] at h; exact fun c d F2 H2 o2 er2 st2 r2 => h c d F2 H2 o2 er2 (st.trans st2) r2
    | bad => rw [ef] at h; exact h
  | exc x ρ1 => rw [em] at h; exact h
  | bad => rw [em] at h; exact h
/-- what an operand holds is read -/
theorem wpS.rdO {f : D → Sem γ} {Q : δ → Hp → Prop} {x : Opd} {v : V} (e : ER K F H own ρ σ) (r : relO K F H1 H own σ v x) (h : wpS clsV K W Rel (bind' (DL.rdO x) f) ρ F own σ H Q) :
    ∃ d, RdR K F H v d ∧ wpS clsV K W Rel (f d) ρ F own σ H Q := by
  unfold wpS bind' DL.rdO at h
  cases eo : getO ρ x with
  | none => rw [eo] at h; exact h.elim
  | some d =>
    rw [eo] at h
    refine ⟨d, ?_, h⟩
    cases x with
    | val d' => cases eo; exact .inl r
    | slot i =>
      obtain ⟨v', hv, q⟩ := e.rd (i := i) eo
      have r' : σ[i]? = some (some v) := r
      rw [hv] at r'
      cases r'
      exact q
theorem wpS.opt {o : Option γ} {Q : δ → Hp → Prop} (h : wpS clsV K W Rel (DL.opt o) ρ F own σ H Q) :
    ∃ a, o = some a ∧ ∀ b F' H' own', ER K F' H' own' ρ σ → Stp F H own F' H' own' → Rel F' H H' own' σ b a → Q b H' := by
  unfold wpS DL.opt at h
  cases o with
  | none => exact h.elim
  | some a => exact ⟨a, rfl, h⟩
theorem wpS.optB {o : Option α} {f : α → Sem γ} {Q : δ → Hp → Prop} (h : wpS clsV K W Rel (bind' (DL.opt o) f) ρ F own σ H Q) :
    ∃ a, o = some a ∧ wpS clsV K W Rel (f a) ρ F own σ H Q := by
  unfold wpS bind' DL.opt at h
  cases o with
  | none => exact h.elim
  | some a => exact ⟨a, rfl, h⟩
theorem wpS.pure {a : γ} {Q : δ → Hp → Prop} (h : wpS clsV K W Rel (pure' a) ρ F own σ H Q) :
    ∀ b F' H' own', ER K F' H' own' ρ σ → Stp F H own F' H' own' → Rel F' H H' own' σ b a → Q b H' := h
end
end
theorem PE.imp {X : Cx} {e : Expr} {t t' : TE} (h : PE X e t) (hi : ∀ σ H Q, t' σ H Q → t σ H Q) : PE X e t' := ⟨fun pins s σ H Q I q => h.run pins s σ H Q I (hi σ H Q q)⟩
theorem PT.imp {X : Cx} {e : Expr} {t t' : TT} (h : PT X e t) (hi : ∀ σ H Q, t' σ H Q → t σ H Q) : PT X e t' := ⟨fun pins s σ H Q I q => h.run pins s σ H Q I (hi σ H Q q)⟩
theorem PW.imp {X : Cx} {e : Expr} {t t' : TT} (h : PW X e t) (hi : ∀ σ H Q, t' σ H Q → t σ H Q) : PW X e t' := ⟨fun wh pins s σ H Q I q => h.run wh pins s σ H Q I (hi σ H Q q)⟩
theorem PA.imp {X : Cx} {e : List Expr} {t t' : TA} (h : PA X e t) (hi : ∀ σ H Q, t' σ H Q → t σ H Q) : PA X e t' := ⟨fun pos pins s σ H Q I q => h.run pos pins s σ H Q I (hi σ H Q q)⟩
theorem PS.imp {X : Cx} {e : Stmt} {t t' : TS} (h : PS X e t) (hi : ∀ D σ H, t' D σ H → t D σ H) : PS X e t' := ⟨fun pins s σ H D I q => h.run pins s σ H D I (hi D σ H q)⟩
theorem PSs.imp {X : Cx} {e : List Stmt} {t t' : TS} (h : PSs X e t) (hi : ∀ D σ H, t' D σ H → t D σ H) : PSs X e t' := ⟨fun pins s σ H D I q => h.run pins s σ H D I (hi D σ H q)⟩
end DL
/-! DL over the model, 2: expressions. -/
namespace DL
open PySem PySem.Spec PyProof.Rows L2
section
variable {clsV : Nat → Value} {X : Cx} {W : WX}
abbrev EC (clsV : Nat → Value) (W : WX) (X : Cx) (e : Expr) (m : Sem Cell) : Prop := PE X e (tG clsV X.K W (relC X.K) m)
abbrev ED (clsV : Nat → Value) (W : WX) (X : Cx) (e : Expr) (m : Sem D) : Prop := PE X e (tG clsV X.K W (relD X.K) m)
abbrev EO (clsV : Nat → Value) (W : WX) (X : Cx) (e : Expr) (m : Sem Opd) : Prop := PE X e (tG clsV X.K W (relO X.K) m)
abbrev ET (clsV : Nat → Value) (W : WX) (X : Cx) (e : Expr) (m : Sem Bool) : Prop := PT X e (tG clsV X.K W relE m)
abbrev EW (clsV : Nat → Value) (W : WX) (X : Cx) (e : Expr) (m : Sem Bool) : Prop := PW X e (tG clsV X.K W relE m)
abbrev EL (clsV : Nat → Value) (W : WX) (X : Cx) (es : List Expr) (m : Sem (List D)) : Prop := PA X es (tG clsV X.K W (relL X.K) m)
abbrev EOs (clsV : Nat → Value) (W : WX) (X : Cx) (es : List Expr) (m : Sem (List Opd)) : Prop := PA X es (tG clsV X.K W (relOs X.K) m)

theorem tG.mono {α β : Type} {K : PySem.W.Frag} {Rel : RelT α β} {m : Sem α} {σ : St} {H : Hp} {Q Q' : β → Hp → Prop} (h : tG clsV K W Rel m σ H Q) (hq : ∀ b H', Q b H' → Q' b H') : tG clsV K W Rel m σ H Q' := by
  obtain ⟨ρ, F, own, e, h⟩ := h
  refine ⟨ρ, F, own, e, ?_⟩
  unfold wpS at h ⊢
  cases em : m ρ with
  | ok a ρ' => rw [em] at h; exact fun b F' H' own' er st r => hq _ _ (h b F' H' own' er st r)
  | exc x ρ' => rw [em] at h; exact h
  | bad => rw [em] at h; exact h

/-! ### names, constants -/
theorem e_var {i : Nat} {x : Str} {pos : Pos} (hN : X.N[i]? = some x) (hv : Vis X.env.scope x) (hd : (x == ("__debug__" : Str)) = false := by decide) (hcd : (x == ("__classdict__" : Str)) = false := by decide) : EC clsV W X (.Name x pos) (sVar i) :=
  PE.imp (pe_var hN hv hd hcd) fun σ H Q ⟨ρ, F, own, e, h⟩ => by
    unfold wpS sVar at h
    cases hc : ρ[i]? with
    | none => rw [hc] at h; exact h.elim
    | some c =>
      rw [hc] at h
      have q := e.at_ i c hc
      cases c with
      | no => exact h.elim
      | io d => exact h.elim
      | fr d =>
        obtain ⟨_, u, hu, r⟩ := q
        exact ⟨u, hu, h u F H own e Stp.refl r⟩
      | ow d =>
        obtain ⟨a, ha, hu, r⟩ := q
        obtain ⟨w, hw, _⟩ := r.some
        have hF : ∀ b, F b → (fun b => F b ∨ b = a) b := fun b f => .inl f
        have rf : RepD X.K (fun b => F b ∨ b = a) H (.ref a) d := r.frozen hF (.inr rfl)
        refine ⟨.ref a, hu, h (.ref a) (fun b => F b ∨ b = a) H (fun j => if j = i then none else own j) (e.set hF ?_ ?_ ⟨rfl, _, hu, rf⟩) ?_ rf⟩
        · rintro b (f | rfl)
          · exact e.fdom b f
          · rw [hw]; exact fun z => by cases z
        · rintro j b t hj ho (f | rfl)
          · exact e.nf j b t ho f
          · exact hj (e.inj j i _ t _ ho ha)
        · refine ⟨hF, fun b _ => .inl rfl, fun b o h1 _ _ => h1, ?_, fun j b t hb => ?_, fun _ z => z⟩
          · rintro b (f | rfl)
            · exact .inl f
            · exact .inr (.inr (.inl ⟨i, _, ha⟩))
          · by_cases hj : j = i
            · rw [if_pos hj] at hb; cases hb
            · rw [if_neg hj] at hb; exact .inl hb
theorem e_ovar {i : Nat} {x : Str} {pos : Pos} (hN : X.N[i]? = some x) (hv : Vis X.env.scope x) (hd : (x == ("__debug__" : Str)) = false := by decide) (hcd : (x == ("__classdict__" : Str)) = false := by decide) : EO clsV W X (.Name x pos) (oVar i) :=
  PE.imp (pe_var hN hv hd hcd) fun σ H Q ⟨ρ, F, own, e, h⟩ => by
    unfold wpS oVar at h
    cases hc : (ρ[i]?).bind Cell.dat with
    | none => rw [hc] at h; exact h.elim
    | some d =>
      rw [hc] at h
      obtain ⟨v, hv, _⟩ := e.rd hc
      exact ⟨v, hv, h v F H own e Stp.refl hv⟩
theorem e_k {e : Expr} {v : V} {d : D} (h : PE X e (tC v)) (r : ∀ F H, RepD X.K F H v d) : EC clsV W X e (sK d) :=
  PE.imp h fun σ H Q ⟨ρ, F, own, e, h⟩ => h v F H own e Stp.refl (r F H)
theorem e_int {i : Int} {j pos} : EC clsV W X (.Constant (.int i) j pos) (sK (.int i)) := e_k pe_int fun _ _ => .int i
theorem e_bl {b j pos} : EC clsV W X (.Constant (.bool b) j pos) (sK (.bl b)) := e_k pe_bl fun _ _ => .bl b
theorem e_non {j pos} : EC clsV W X (.Constant .none j pos) (sK .non) := e_k pe_non fun _ _ => .non
theorem repS (K : PySem.W.Frag) (x : Str) (F : Addr → Prop) (H : Hp) : RepD K F H (.str x) (.str (unS x)) := by
  have := RepD.str (K := K) (F := F) (H := H) (unS x)
  rwa [mkS_unS] at this
theorem e_str {x : Str} {l : List Nat} {j pos} (hl : unS x = l) : EC clsV W X (.Constant (.str x) j pos) (sK (.str l)) := e_k pe_str fun F H => hl ▸ repS X.K x F H
/-- a module's constant: an int, a text .. -/
theorem e_glob {x : Str} {v : V} {u : Value} {d : D} {pos : Pos} (hg : Gl X x) (hm : X.mg x = some u) (r : RelV v u) (rd : ∀ F H, RepD X.K F H v d) (hd : (x == ("__debug__" : Str)) = false := by decide) : EC clsV W X (.Name x pos) (sK d) := e_k (pe_glob hg hm r hd) rd

/-! ### a value that is kept, looked at -/
theorem add_F {K : PySem.W.Frag} {F : Addr → Prop} {H0 H : Hp} {own0 own : Ow} {ρ : Env} {σ : St} {F0 : Addr → Prop} {a : Addr} {d : D} (e : ER K F H own ρ σ) (s : Stp F0 H0 own0 F H own) (h0 : H0 a = none) (no : ∀ i t, own i ≠ some (a, t)) (o : OwnR K F H a d) :
    ER K (fun b => F b ∨ b = a) H own ρ σ ∧ Stp F0 H0 own0 (fun b => F b ∨ b = a) H own ∧ RepD K (fun b => F b ∨ b = a) H (.ref a) d := by
  obtain ⟨w, hw, _⟩ := o.some
  refine ⟨e.more (fun b f => .inl f) ?_ ?_, ⟨fun b f => .inl (s.mono b f), s.rd, s.keep, ?_, s.newO, s.dom⟩, o.frozen (fun b f => .inl f) (.inr rfl)⟩
  · rintro b (f | rfl)
    · exact e.fdom b f
    · rw [hw]; exact fun z => by cases z
  · rintro i b t hb (f | rfl)
    · exact e.nf i b t hb f
    · exact no i t hb
  · rintro b (f | rfl)
    · exact s.newF b f
    · exact .inr (.inl h0)
theorem e_fz {e : Expr} {m : Sem Cell} (h : EC clsV W X e m) : ED clsV W X e (fz m) :=
  PE.imp h fun σ H Q ⟨ρ, F, own, er, h⟩ => by
    refine ⟨ρ, F, own, er, ?_⟩
    unfold wpS fz bind' opt at h
    unfold wpS
    cases em : m ρ with
    | bad => rw [em] at h; exact h
    | exc x ρ' => rw [em] at h; exact h
    | ok c ρ' =>
      rw [em] at h
      intro b F' H' own' er' st r
      cases c with
      | no => exact h.elim
      | io d => exact h.elim
      | fr d => exact h b F' H' own' er' st r
      | ow d =>
        obtain ⟨a, rfl, h0, hf, no, o⟩ := r
        obtain ⟨e2, s2, r2⟩ := add_F er' st h0 no o
        exact h _ _ H' own' e2 s2 r2
theorem e_ov {e : Expr} {m : Sem Cell} (h : EC clsV W X e m) : EO clsV W X e (ov m) :=
  PE.imp h fun σ H Q ⟨ρ, F, own, er, h⟩ => by
    refine ⟨ρ, F, own, er, ?_⟩
    unfold wpS ov bind' opt at h
    unfold wpS
    cases em : m ρ with
    | bad => rw [em] at h; exact h
    | exc x ρ' => rw [em] at h; exact h
    | ok c ρ' =>
      rw [em] at h
      intro b F' H' own' er' st r
      cases c with
      | no => exact h.elim
      | io d => exact h.elim
      | fr d => exact h b F' H' own' er' st r
      | ow d =>
        obtain ⟨a, rfl, h0, hf, no, o⟩ := r
        obtain ⟨e2, s2, r2⟩ := add_F er' st h0 no o
        exact h _ _ H' own' e2 s2 r2

/-! ### what a new object gives -/
section
variable {K : PySem.W.Frag} {F : Addr → Prop} {H : Hp} {own : Ow} {ρ : Env} {σ : St} {Q : VK}
/-- the ends that are wanted of a cell -/
abbrev EndC (K : PySem.W.Frag) (F : Addr → Prop) (H : Hp) (own : Ow) (ρ : Env) (σ : St) (Q : VK) (c : Cell) : Prop :=
  ∀ b F' H' own', ER K F' H' own' ρ σ → Stp F H own F' H' own' → relC K F' H H' own' σ b c → Q b H'
theorem EndC.same {c : D} {v : V} (k : EndC K F H own ρ σ Q (.fr c)) (e : ER K F H own ρ σ) (r : RepD K F H v c) : Q v H := k v F H own e Stp.refl r
theorem ER.noFresh (e : ER K F H own ρ σ) {p : Addr} (hp : H p = none) : ¬ F p ∧ ∀ i t, own i ≠ some (p, t) := by
  refine ⟨fun f => e.fdom p f hp, fun i t hi => ?_⟩
  cases hc : ρ[i]? with
  | none => rw [e.out i hc] at hi; cases hi
  | some c =>
    have q := e.at_ i c hc
    cases c with
    | no => rw [show own i = none from q] at hi; cases hi
    | fr d => rw [q.1] at hi; cases hi
    | ow d =>
      obtain ⟨a, h1, _, o⟩ := q
      obtain ⟨w, hw, _⟩ := o.some
      rw [hi] at h1; cases h1
      rw [hp] at hw; cases hw
    | io d =>
      obtain ⟨a, h1, _, o⟩ := q
      obtain ⟨w, hw, _⟩ := o.some
      rw [hi] at h1; cases h1
      rw [hp] at hw; cases hw
theorem keepNew (e : ER K F H own ρ σ) {p : Addr} {u : HO} (hp : H p = none) : Keep F H (upd H p u) := fun a f => .inl (upd_ne fun z => e.fdom a f (z ▸ hp))
theorem EndC.lst {ds : List D} {vs : List V} (k : EndC K F H own ρ σ Q (.ow (.lst ds))) (e : ER K F H own ρ σ) (r : RepL K F H vs ds) : ∀ p, H p = none → Q (.ref p) (upd H p (.lst vs)) := fun p hp =>
  k (.ref p) F _ own (e.new hp) (Stp.new e.fdom hp) ⟨p, rfl, hp, (e.noFresh hp).1, (e.noFresh hp).2, .lst upd_same (r.mono (fun _ f => f) (keepNew e hp))⟩
theorem EndC.tup {ds : List D} {vs : List V} (k : EndC K F H own ρ σ Q (.fr (.tup ds))) (e : ER K F H own ρ σ) (r : RepL K F H vs ds) : ∀ p, H p = none → Q (.ref p) (upd H p (.tup vs)) := fun p hp => by
  have e1 := e.new (u := .tup vs) hp
  have s1 : Stp F H own F (upd H p (.tup vs)) own := Stp.new e.fdom hp
  obtain ⟨nf, no⟩ := e.noFresh hp
  refine k (.ref p) (fun b => F b ∨ b = p) _ own (e1.more (fun b f => .inl f) ?_ ?_) ⟨fun b f => .inl f, s1.rd, s1.keep, ?_, s1.newO, s1.dom⟩ (.tup ⟨.inr rfl, upd_same⟩ (r.mono (fun _ f => .inl f) (keepNew e hp)))
  · rintro b (f | rfl)
    · exact e1.fdom b f
    · rw [upd_same]; exact fun z => by cases z
  · rintro i b t hb (f | rfl)
    · exact e.nf i b t hb f
    · exact no i t hb
  · rintro b (f | rfl)
    · exact .inl f
    · exact .inr (.inl hp)
end

/-! ### operators by values -/
/-- what a rule of values asks is there wherever f has an answer -/
def OpOk (X : Cx) (r : R2) (f : D → D → Option Cell) : Prop := ∀ (F : Addr → Prop) (H : Hp) (own : Ow) (ρ : Env) (σ : St) (Q : VK) (v w : V) (d e : D) (c : Cell),
  ER X.K F H own ρ σ → RdR X.K F H v d → RdR X.K F H w e → f d e = some c → EndC X.K F H own ρ σ Q c → r v w H Q
/-- .. of a truth value -/
def CkOk (X : Cx) (r : R2) (f : D → D → Option Bool) : Prop := ∀ (F : Addr → Prop) (H : Hp) (own : Ow) (ρ : Env) (σ : St) (Q : VK) (v w : V) (d e : D) (c : Bool),
  ER X.K F H own ρ σ → RdR X.K F H v d → RdR X.K F H w e → f d e = some c → (∀ H' F' own', ER X.K F' H' own' ρ σ → Stp F H own F' H' own' → Q (.bl c) H') → r v w H Q
/-- two operands -/
theorem wp_s2 {γ δ : Type} {Rel : RelT γ δ} {ma mb : Sem Opd} {f : D → D → Option γ} {σ : St} {H : Hp} {Q : δ → Hp → Prop} (bk : Back Rel) {ta tb : TE} {r : V → V → Hp → Prop}
    (ha : ∀ H Q, tG clsV X.K W (relO X.K) ma σ H Q → ta σ H Q) (hb : ∀ H Q, tG clsV X.K W (relO X.K) mb σ H Q → tb σ H Q) (h : tG clsV X.K W Rel (s2 ma mb f) σ H Q)
    (hr : ∀ (F : Addr → Prop) (H2 : Hp) (own : Ow) (ρ : Env) (v w : V) (d e : D) (c : γ), ER X.K F H2 own ρ σ → RdR X.K F H2 v d → RdR X.K F H2 w e → f d e = some c →
      (∀ b F' H' own', ER X.K F' H' own' ρ σ → Stp F H2 own F' H' own' → Rel F' H2 H' own' σ b c → Q b H') → r v w H2) :
    ta σ H fun x H1 => tb σ H1 fun y H2 => r x y H2 := by
  obtain ⟨ρ, F, own, er, h⟩ := h
  refine ha _ _ (tG.mono (wpS.bind (Rel1 := relO X.K) bk er h) fun x H1 ⟨o1, ρ1, F1, own1, e1, s1, r1, h1⟩ => ?_)
  refine hb _ _ (tG.mono (wpS.bind (Rel1 := relO X.K) bk e1 h1) fun y H2 ⟨o2, ρ2, F2, own2, e2, s2, r2, h2⟩ => ?_)
  obtain ⟨d, rd, h3⟩ := wpS.rdO e2 (r1.step (H2 := H) s2) h2
  obtain ⟨d2, rd2, h4⟩ := wpS.rdO e2 r2 h3
  obtain ⟨c, hc, k⟩ := wpS.opt h4
  exact hr F2 H2 own2 ρ2 x y d d2 c e2 rd rd2 hc k
theorem e_bin {op : Operator} {r : R2} {f : D → D → Option Cell} {a b : Expr} {pos : Pos} {ma mb : Sem Opd} (ho : OpR X (binaryOp op) r) (hk : OpOk X r f) (ha : EO clsV W X a ma) (hb : EO clsV W X b mb) : EC clsV W X (.BinOp a op b pos) (s2 ma mb f) :=
  PE.imp (pe_op ho ha hb) fun σ H Q h => wp_s2 back_C (fun _ _ q => q) (fun _ _ q => q) h fun F H2 own ρ v w d e c er r1 r2 hc k => hk F H2 own ρ σ Q v w d e c er r1 r2 hc k
theorem e_cmpT {op : CmpOp} {r : R2} {f : D → D → Option Bool} {a b : Expr} {pos : Pos} {ma mb : Sem Opd} (ho : OpR X (compareOp op) r) (hk : CkOk X r f) (ha : EO clsV W X a ma) (hb : EO clsV W X b mb) (hm : behindInMarks op b = false) : ET clsV W X (.Compare a [op] [b] pos) (s2 ma mb f) :=
  PT.imp (pt_cmpR ho ha hb hm) fun σ H Q h => wp_s2 (r := fun x y H2 => r x y H2 fun x H' => ∃ k, x = .bl k ∧ Q k H') back_E (fun _ _ q => q) (fun _ _ q => q) h fun F H2 own ρ v w d e c er r1 r2 hc k =>
    hk F H2 own ρ σ _ v w d e c er r1 r2 hc fun H' F' own' e' s' => ⟨c, rfl, k c F' H' own' e' s' rfl⟩
theorem tG.sBl {m : Sem Bool} {σ : St} {H : Hp} {Q : VK} {K : PySem.W.Frag} (h : tG clsV K W (relC K) (sBl m) σ H Q) : tG clsV K W relE m σ H fun b H' => Q (.bl b) H' := by
  obtain ⟨ρ, F, own, er, h⟩ := h
  refine ⟨ρ, F, own, er, ?_⟩
  unfold wpS DL.sBl bind' pure' at h
  unfold wpS
  cases em : m ρ with
  | bad => rw [em] at h; exact h
  | exc x ρ' => rw [em] at h; exact h
  | ok c ρ' => rw [em] at h; exact fun b F' H' own' e' s' r => h (.bl b) F' H' own' e' s' (by cases r; exact .bl _)
theorem e_cmp {op : CmpOp} {r : R2} {f : D → D → Option Bool} {a b : Expr} {pos : Pos} {ma mb : Sem Opd} (ho : OpR X (compareOp op) r) (hk : CkOk X r f) (ha : EO clsV W X a ma) (hb : EO clsV W X b mb) (hm : behindInMarks op b = false) : EC clsV W X (.Compare a [op] [b] pos) (sBl (s2 ma mb f)) :=
  PE.imp (pe_cmpR ho ha hb hm) fun σ H Q h => wp_s2 (r := fun x y H2 => r x y H2 Q) back_E (fun _ _ q => q) (fun _ _ q => q) h.sBl fun F H2 own ρ v w d e c er r1 r2 hc k =>
    hk F H2 own ρ σ _ v w d e c er r1 r2 hc fun H' F' own' e' s' => k c F' H' own' e' s' rfl

/-! ### +, -, *, //, % -/
/-- list + list, of lists that are read -/
def rCatL : R2 := fun x y H Q => ∃ l b xs zs, x = .ref l ∧ y = .ref b ∧ Rd H l (.lst xs) ∧ Rd H b (.lst zs) ∧ xs.length + zs.length ≤ sizeLine ∧ ∀ p, H p = none → Q (.ref p) (upd H p (.lst (xs ++ zs)))
theorem op_catL : OpR X (binaryOp .Add) rCatL := by
  intro pins s σ H x y v u Q I rx ry h
  obtain ⟨l, b, xs, zs, rfl, rfl, hH, hB, hz, q⟩ := h
  cases rx
  cases ry
  obtain ⟨z, its, n, r, e⟩ := hH.ok I.hok
  obtain ⟨z2, its2, n2, r2, e2⟩ := hB.ok I.hok
  have hl := r.length
  have hl2 := r2.length
  refine PySem.P.add_list e e2 ?_ (by rw [List.size_toArray, List.size_toArray]; omega)
  have ea : its.toArray ++ its2.toArray = (its ++ its2).toArray := by simp
  rw [ea]
  exact ⟨.ref _, _, I.lnew (t' := s.toks) (r.append r2) (by rw [List.length_append]; omega), rfl, q _ I.fresh⟩
def rRepL : R2 := fun x y H Q => ∃ l k xs, x = .ref l ∧ y = .int k ∧ Rd H l (.lst xs) ∧ -(2 ^ 63) ≤ k ∧ k < 2 ^ 63 ∧ xs.length * k.toNat ≤ sizeLine ∧
  ∀ p, H p = none → Q (.ref p) (upd H p (.lst (List.replicate k.toNat xs).flatten))
theorem op_repL : OpR X (binaryOp .Mult) rRepL := by
  intro pins s σ H x y v u Q I rx ry h
  obtain ⟨l, k, xs, rfl, rfl, hH, h1, h2, hz, q⟩ := h
  cases rx
  obtain ⟨t, rfl⟩ := ry
  obtain ⟨z, its, n, r, e⟩ := hH.ok I.hok
  have hl := r.length
  have hlen : its.toArray.size * k.toNat ≤ sizeLine := by rw [List.size_toArray, ← hl]; exact hz
  have hcap : ¬ its.toArray.size * k.toNat > (2 ^ 63 - 1) / 8 := by
    have : (sizeLine : Nat) ≤ (2 ^ 63 - 1) / 8 := by decide
    omega
  have hfit : ¬ (!Builtin.List.listFitsIndex k) = true := by
    rw [fitsIndex_both h1 h2]
    exact Bool.false_ne_true
  have hlong : ¬ Builtin.List.listTooLong (its.toArray.size * k.toNat) = true := by
    rw [notLongL hlen]
    exact Bool.false_ne_true
  have hnew : List.foldl (fun x1 x2 => x1 ++ x2) #[] (List.replicate (if its.toArray.isEmpty = true then 0 else k.toNat) its.toArray) = (List.replicate k.toNat its).flatten.toArray := by
    have f0 : ∀ m : Nat, List.foldl (fun x1 x2 => x1 ++ x2) #[] (List.replicate m its.toArray) = (List.replicate m its).flatten.toArray := fun m => by
      have := foldl_rep its m []
      rw [List.nil_append] at this
      exact this
    rw [f0]
    cases its with
    | nil => simp
    | cons a r' => rw [if_neg (by simp)]
  refine wpAny_binaryOp_repeat_ref (T := "list") (U := "int") (by decide) ⟨_, e, rfl⟩ (fun s' => typeIs_int s' k t) noFill_list_mul F.fills_int_mul F.slot_int_rmul repeat_list F.slot_int_index.lookup
    (call_meets F.slot_int_rmul (typeIs_int s k t) F.entry_int_rmul (F.args_int_rmul_2 _ _) (int___rmul___int_list k t l its.toArray n)
      ⟨e, rfl, ⟨_, e, rfl⟩, call_meets F.slot_list_mul ⟨_, e, rfl⟩ F.entry_list_mul (F.args_list_mul_2 _ _) (AutoListH.list___mul___list_int_3 l its.toArray n k t hfit hcap hlong) ⟨e, ?_⟩⟩)
  rw [hnew]
  exact ⟨.ref _, _, I.lnew (t' := s.toks) (r.rep k.toNat) (by rw [PyProof.Rows.lm_len_rep_flat, Nat.mul_comm]; exact hz), rfl, q _ I.fresh⟩

def addR (K : PySem.W.Frag) : R2 := fun x y H Q => (rI0 (fun i j => .int (i + j)) x y H Q ∨ (∃ i j, x = .str i ∧ y = .str j ∧ i.length + j.length ≤ sizeLine ∧ Q (.str (i ++ j)) H)) ∨ (rCatL x y H Q ∨ rCatA K x y H Q)
theorem addR_ok : OpR X (binaryOp .Add) (addR X.K) := (op_add.or op_add_str).or (op_catL.or op_catA)
theorem mkS_len (l : List Nat) : (mkS l).length = l.length := by simp [mkS, Str.length]
theorem mkS_append (a b : List Nat) : mkS a ++ mkS b = mkS (a ++ b) := by
  show Str.mk _ = Str.mk _
  simp [mkS]
theorem add_k : OpOk X (addR X.K) (binop .add) := by
  intro F H own ρ σ Q v w d e c er r1 r2 hf k
  have lim := lim_eq
  cases d <;> cases e <;> (first | (simp only [binop] at hf; done) | skip) <;> simp only [binop, Option.some.injEq, reduceCtorEq, Option.ite_none_right_eq_some] at hf
  · rw [r1.int, r2.int]
    subst hf
    exact .inl (.inl ⟨_, _, rfl, rfl, k.same er (.int _)⟩)
  · obtain ⟨hl, rfl⟩ := hf
    rw [r1.str, r2.str]
    refine .inl (.inr ⟨_, _, rfl, rfl, by rw [mkS_len, mkS_len, ← lim]; exact hl, ?_⟩)
    rw [mkS_append]
    exact k.same er (.str _)
  · obtain ⟨⟨hx, hl⟩, rfl⟩ := hf
    obtain ⟨a, vs, rfl, ha, ra⟩ := r1.tup
    obtain ⟨b, ws, rfl, hb, rb⟩ := r2.tup
    have l1 := ra.length
    have l2 := rb.length
    refine .inr (.inr ⟨a, b, vs, ws, rfl, rfl, ha, hb, by omega, fun z => ?_, fun _ z => ?_, fun _ _ => k.tup er (ra.append rb)⟩)
    · subst z
      exact (hx (List.length_eq_zero_iff.mp l1.symm)).elim
    · subst z
      have z2 := List.length_eq_zero_iff.mp l2.symm
      subst z2
      rw [List.append_nil] at k
      rcases r1 with r1 | ⟨_, _, o⟩
      · exact k.same er r1
      · cases o
  · obtain ⟨hl, rfl⟩ := hf
    obtain ⟨a, vs, rfl, ha, ra⟩ := r1.lst
    obtain ⟨b, ws, rfl, hb, rb⟩ := r2.lst
    have l1 := ra.length
    have l2 := rb.length
    exact .inr (.inl ⟨a, b, vs, ws, rfl, rfl, ha, hb, by omega, k.lst er (ra.append rb)⟩)
theorem sub_k : OpOk X (rI0 fun i j => .int (i - j)) (binop .sub) := by
  intro F H own ρ σ Q v w d e c er r1 r2 hf k
  cases d <;> cases e <;> (first | (simp only [binop] at hf; done) | skip) <;> simp only [binop, Option.some.injEq, reduceCtorEq] at hf
  rw [r1.int, r2.int]
  subst hf
  exact ⟨_, _, rfl, rfl, k.same er (.int _)⟩
theorem fdiv_k : OpOk X (rI CDiv fun i j => .int (i / j)) (binop .fdiv) := by
  intro F H own ρ σ Q v w d e c er r1 r2 hf k
  cases d <;> cases e <;> (first | (simp only [binop] at hf; done) | skip) <;> simp only [binop, Option.some.injEq, reduceCtorEq, Option.ite_none_right_eq_some] at hf
  obtain ⟨hl, rfl⟩ := hf
  rw [r1.int, r2.int]
  exact ⟨_, _, rfl, rfl, hl, k.same er (.int _)⟩
theorem mod_k : OpOk X (rI (fun _ j => 0 < j) fun i j => .int (i % j)) (binop .mod) := by
  intro F H own ρ σ Q v w d e c er r1 r2 hf k
  cases d <;> cases e <;> (first | (simp only [binop] at hf; done) | skip) <;> simp only [binop, Option.some.injEq, reduceCtorEq, Option.ite_none_right_eq_some] at hf
  obtain ⟨hl, rfl⟩ := hf
  rw [r1.int, r2.int]
  exact ⟨_, _, rfl, rfl, hl, k.same er (.int _)⟩
def mulR : R2 := fun x y H Q => rI CMul (fun i j => .int (i * j)) x y H Q ∨ rRepL x y H Q
theorem mulR_ok : OpR X (binaryOp .Mult) mulR := op_mul.or op_repL
theorem mul_k : OpOk X mulR (binop .mul) := by
  intro F H own ρ σ Q v w d e c er r1 r2 hf k
  have lim := lim_eq
  cases d <;> cases e <;> (first | (simp only [binop] at hf; done) | skip) <;> simp only [binop, Option.some.injEq, reduceCtorEq, Option.ite_none_right_eq_some] at hf
  · obtain ⟨hl, rfl⟩ := hf
    rw [r1.int, r2.int]
    exact .inl ⟨_, _, rfl, rfl, hl, k.same er (.int _)⟩
  · obtain ⟨hl, rfl⟩ := hf
    obtain ⟨a, vs, rfl, ha, ra⟩ := r1.lst
    rw [r2.int]
    have l1 := ra.length
    exact .inr ⟨a, _, vs, rfl, rfl, ha, by omega, by omega, by rw [l1, ← lim]; exact hl.2.2, k.lst er (ra.flat _)⟩
/-- the operators -/
theorem e_add {a b : Expr} {pos : Pos} {ma mb : Sem Opd} (ha : EO clsV W X a ma) (hb : EO clsV W X b mb) : EC clsV W X (.BinOp a .Add b pos) (sBin .add ma mb) := e_bin addR_ok add_k ha hb
theorem e_sub {a b : Expr} {pos : Pos} {ma mb : Sem Opd} (ha : EO clsV W X a ma) (hb : EO clsV W X b mb) : EC clsV W X (.BinOp a .Sub b pos) (sBin .sub ma mb) := e_bin op_sub sub_k ha hb
theorem e_mul {a b : Expr} {pos : Pos} {ma mb : Sem Opd} (ha : EO clsV W X a ma) (hb : EO clsV W X b mb) : EC clsV W X (.BinOp a .Mult b pos) (sBin .mul ma mb) := e_bin mulR_ok mul_k ha hb
theorem e_fdiv {a b : Expr} {pos : Pos} {ma mb : Sem Opd} (ha : EO clsV W X a ma) (hb : EO clsV W X b mb) : EC clsV W X (.BinOp a .FloorDiv b pos) (sBin .fdiv ma mb) := e_bin op_fdiv fdiv_k ha hb
theorem e_mod {a b : Expr} {pos : Pos} {ma mb : Sem Opd} (ha : EO clsV W X a ma) (hb : EO clsV W X b mb) : EC clsV W X (.BinOp a .Mod b pos) (sBin .mod ma mb) := e_bin op_mod mod_k ha hb
end
end DL
/-! DL over the model, 3: comparisons, dicts that are read, subscripts, slices, tests. -/
namespace DL
open PySem PySem.Spec PyProof.Rows L2
/-! ### data as the library has it -/
namespace D
mutual
def py : D → PyData
  | .non => .none
  | .bl b => .bool b
  | .int i => .int i
  | .str s => .str (mkS s)
  | .tup xs => .tuple (pyL xs)
  | .lst xs => .list (pyL xs)
  | .dic _ => .dict []
  | .klst _ => .dict []
def pyL : List D → List PyData
  | [] => []
  | x :: xs => py x :: pyL xs
end
theorem mkS_beq (a b : List Nat) : (mkS a == mkS b) = (a == b) := by
  rw [Bool.eq_iff_iff, beq_iff_eq, beq_iff_eq]
  exact ⟨mkS_inj, fun h => h ▸ rfl⟩
mutual
theorem eqv_py : ∀ a b : D, PyData.eqv a.py b.py = a.eqv b
  | .non, b => by cases b <;> simp [py, eqv, PyData.eqv]
  | .bl _, b => by cases b <;> simp [py, eqv, PyData.eqv]
  | .int _, b => by cases b <;> simp [py, eqv, PyData.eqv]
  | .str _, b => by cases b <;> simp [py, eqv, PyData.eqv, mkS_beq]
  | .tup xs, b => by cases b <;> simp [py, eqv, PyData.eqv, eqvL_py xs]
  | .lst xs, b => by cases b <;> simp [py, eqv, PyData.eqv, eqvL_py xs]
  | .dic _, b => by cases b <;> simp [py, eqv, PyData.eqv]
  | .klst _, b => by cases b <;> simp [py, eqv, PyData.eqv]
theorem eqvL_py : ∀ a b : List D, PyData.eqvAll (pyL a) (pyL b) = eqvL a b
  | [], b => by cases b <;> simp [pyL, eqvL, PyData.eqvAll]
  | x :: xs, b => by cases b <;> simp [pyL, eqvL, PyData.eqvAll, eqv_py x, eqvL_py xs]
end
theorem pyL_map : ∀ xs : List D, pyL xs = xs.map py
  | [] => rfl
  | x :: xs => by rw [pyL, List.map_cons, pyL_map xs]
mutual
theorem lay_py : ∀ a : D, a.plain = true → a.py.canLay0 = true
  | .non, _ => by simp [py, PyData.canLay0]
  | .bl _, _ => by simp [py, PyData.canLay0]
  | .int _, _ => by simp [py, PyData.canLay0]
  | .str s, h => by simpa [py, PyData.canLay0, PyData.strOk, plain] using h
  | .tup xs, h => by rw [py, PyData.canLay0]; exact layL_py xs (by simpa [plain] using h)
  | .lst xs, h => by rw [py, PyData.canLay0]; exact layL_py xs (by simpa [plain] using h)
  | .dic _, h => by simp [plain] at h
  | .klst _, h => by simp [plain] at h
theorem layL_py : ∀ a : List D, plainL a = true → PyData.canLayAll0 (pyL a) = true
  | [], _ => by simp [pyL, PyData.canLayAll0]
  | x :: xs, h => by
    simp only [plainL, Bool.and_eq_true] at h
    rw [pyL, PyData.canLayAll0, lay_py x h.1, layL_py xs h.2]
    rfl
end
mutual
theorem depth_py : ∀ a : D, a.plain = true → a.py.depth = a.depth
  | .non, _ => by simp [py, PyData.depth, depth]
  | .bl _, _ => by simp [py, PyData.depth, depth]
  | .int _, _ => by simp [py, PyData.depth, depth]
  | .str s, h => by simp [py, PyData.depth, depth]
  | .tup xs, h => by rw [py, PyData.depth, depth, depthL_py xs (by simpa [plain] using h)]
  | .lst xs, h => by rw [py, PyData.depth, depth, depthL_py xs (by simpa [plain] using h)]
  | .dic _, h => by simp [plain] at h
  | .klst _, h => by simp [plain] at h
theorem depthL_py : ∀ a : List D, plainL a = true → PyData.depthAll (pyL a) = depthL a
  | [], _ => by simp [pyL, PyData.depthAll, depthL]
  | x :: xs, h => by
    simp only [plainL, Bool.and_eq_true] at h
    rw [pyL, PyData.depthAll, depthL, depth_py x h.1, depthL_py xs h.2]
end
theorem shaped_py {a : D} (h : a.plain = true) (hd : a.depth ≤ 64) : SeqAt.shaped a.py = true := by
  unfold SeqAt.shaped
  rw [lay_py a h, depth_py a h, decide_eq_true hd]
  rfl
end D

section
variable {K : PySem.W.Frag} {F : Addr → Prop} {H : Hp}
mutual
theorem RepD.dp : ∀ {v : V} {d : D}, RepD K F H v d → d.plain = true → Dp K H v d.py
  | _, _, .non, _ => .non
  | _, _, .bl b, _ => .bl b
  | _, _, .int i, _ => .int i
  | _, _, .str s, _ => .str _
  | _, _, .lst s r, h => .lst (.inl s.2) (RepL.dp r (by simpa [D.plain] using h))
  | _, _, .tup s r, h => .tup s.sq (RepL.dp r (by simpa [D.plain] using h))
  | _, _, .dic _ _ _, h => by simp [D.plain] at h
  | _, _, .klst _ _, h => by simp [D.plain] at h
theorem RepL.dp : ∀ {v : List V} {d : List D}, RepL K F H v d → D.plainL d = true → DpAll K H v (D.pyL d)
  | _, _, .nil, _ => .nil
  | _, _, .cons a t, h => by
    simp only [D.plainL, Bool.and_eq_true] at h
    exact .cons (RepD.dp a h.1) (RepL.dp t h.2)
end
theorem RdR.dp {v : V} {d : D} (r : RdR K F H v d) (h : d.plain = true) : Dp K H v d.py := by
  rcases r with r | ⟨a, rfl, o⟩
  · exact r.dp h
  · cases o with
    | lst e r => exact .lst (SqL.of e) (r.dp (by simpa [D.plain] using h))
    | dk e r => simp [D.plain] at h
    | dt e r => simp [D.plain] at h
/-- flat data -/
theorem RepD.flatV {v : V} {d : D} (r : RepD K F H v d) (h : d.flat = true) : L2.flatV v = true := by
  cases r <;> first | rfl | (simp [D.flat] at h)
theorem RepD.eqV {v w : V} {d e : D} (r : RepD K F H v d) (q : RepD K F H w e) (h : d.flat = true) (h2 : e.flat = true) : L2.eqV v w = d.eqv e := by
  cases r <;> cases q <;> first
    | rfl
    | (simp [D.flat] at h; done)
    | (simp [D.flat] at h2; done)
    | (show (mkS _ == mkS _) = _; rw [D.mkS_beq]; rfl)
    | (simp [L2.eqV, D.eqv])
theorem RepL.flats : ∀ {vs : List V} {ds : List D}, RepL K F H vs ds → ds.all D.flat = true → vs.all L2.flatV = true
  | _, _, .nil, _ => rfl
  | _, _, .cons a t, h => by
    rw [List.all_cons, Bool.and_eq_true] at h
    rw [List.all_cons, a.flatV h.1, RepL.flats t h.2]
    rfl
theorem RepL.inV {v : V} {d : D} (r : RepD K F H v d) (hd : d.flat = true) : ∀ {vs : List V} {ds : List D}, RepL K F H vs ds → ds.all D.flat = true → L2.inV v vs = ds.any fun x => x.eqv d
  | _, _, .nil, _ => rfl
  | _, _, .cons a t, h => by
    rw [List.all_cons, Bool.and_eq_true] at h
    have ih := RepL.inV r hd t h.2
    unfold L2.inV at ih ⊢
    rw [List.any_cons, List.any_cons, a.eqV r h.1 hd, ih]
theorem RdR.flat {v : V} {d : D} (r : RdR K F H v d) (h : d.flat = true) : RepD K F H v d := by
  rcases r with r | ⟨a, rfl, o⟩
  · exact r
  · cases o <;> simp [D.flat] at h
/-- a key as the heap's values have it -/
theorem RepD.key {v : V} {k : Key} (r : RepD K F H v (keyD k)) : v = kV k := by
  cases k with
  | inl i => cases r; rfl
  | inr x =>
    have e : keyD (.inr x) = .str (unS x) := rfl
    rw [e] at r
    cases r
    rw [mkS_unS]
    rfl
theorem RepL.keys : ∀ {ks : List Key} {vs : List V}, RepL K F H vs (ks.map keyD) → vs = ks.map kV
  | [], _, r => by rw [List.map_nil] at r; cases r; rfl
  | k :: ks, _, r => by
    rw [List.map_cons] at r
    cases r with
    | cons a t => rw [a.key, RepL.keys t]; rfl
theorem key1_of {d : D} (h : key1 d = true) : ∃ k, d = keyD k := by
  cases d with
  | int i => exact ⟨.inl i, rfl⟩
  | str l => exact ⟨.inr (mkS l), by show D.str l = D.str (unS _); rw [unS_mkS]⟩
  | non => simp [key1] at h
  | bl _ => simp [key1] at h
  | tup _ => simp [key1] at h
  | lst _ => simp [key1] at h
  | dic _ => simp [key1] at h
  | klst _ => simp [key1] at h
theorem key1s_of : ∀ {ds : List D}, ds.all key1 = true → ∃ ks : List Key, ds = ks.map keyD
  | [], _ => ⟨[], rfl⟩
  | d :: ds, h => by
    rw [List.all_cons, Bool.and_eq_true] at h
    obtain ⟨k, rfl⟩ := key1_of h.1
    obtain ⟨ks, rfl⟩ := key1s_of h.2
    exact ⟨k :: ks, rfl⟩
theorem keyT_of {d : D} (h : keyT d = true) : ∃ ks : List Key, d = .tup (ks.map keyD) := by
  cases d <;> first
    | (simp [keyT] at h; done)
    | (obtain ⟨ks, rfl⟩ := key1s_of (by simpa [keyT] using h); exact ⟨ks, rfl⟩)

/-! ### a dict that is asked -/
/-- what the dict at a holds at y; an empty one may be asked for any key -/
def DG (K : PySem.W.Frag) (H : Hp) (a : Addr) (y : V) (r : Option V) : Prop :=
  (∃ kvs k, Rd H a (.dK kvs) ∧ y = kV k ∧ r = valV kvs k) ∨ (∃ kvs k b, Rd H a (.dT kvs) ∧ y = .ref b ∧ SqT K H b (k.map kV) ∧ r = valV kvs k) ∨
    (∃ (k : List Key) (b : Addr), Rd H a (.dK []) ∧ y = .ref b ∧ SqT K H b (k.map kV) ∧ r = none) ∨ (∃ k : Key, Rd H a (.dT []) ∧ y = kV k ∧ r = none)
section
variable {X : Cx} {pins : List (Addr × Obj)} {σ : St} {s : Shared} {a : Addr} {y v : V} {u r : Value} {o : Option V} {A : Around} {E : Value → Shared → Prop}
theorem key_ofK {b : Addr} {k : List Key} (I : Inv X pins σ H s) (h : SqT X.K H b (k.map kV)) : (tupleKind (mixKind X.prog X.w)).is s.heap k b := by
  obtain ⟨its, r, ⟨ob, h1, h2, n, h3⟩, _⟩ := I.tuple h
  exact ⟨ob, its.toArray, n, h1, h2, h3, by simpa using items_are r⟩
theorem dk_empty_H {b : Addr} (I : Inv X pins σ H s) (h : Rd H b (.dK [])) : (b == sysModules) = false ∧ s.heap.DictOfH (tupleKind (mixKind X.prog X.w)) b [] := by
  obtain ⟨z, hd, vs, rel, ob, es, ep, h1, h2, h3, h4, h5, h6⟩ := dk_rd I.hok h
  cases rel
  refine ⟨hd, ob, es, ep, h1, h2, h3, ?_, fun x hx => absurd hx List.not_mem_nil, List.nodup_nil⟩
  cases hq : es.toList with
  | nil => rfl
  | cons e es' => rw [hq] at h5; cases h5
theorem dt_empty_K {b : Addr} (I : Inv X pins σ H s) (h : Rd H b (.dT [])) : (b == sysModules) = false ∧ s.heap.DictOf (mixKind X.prog X.w) b [] := by
  obtain ⟨z, hd, xs, rel, ob, es, ep, h1, h2, h3, h4, _⟩ := dt_rd I.hok h
  cases rel
  rw [List.map_nil] at h4
  have e0 : es = #[] := by
    cases es with
    | mk l => simp only at h4; rw [h4]
  subst e0
  refine ⟨hd, ob, #[], ep, h1, h2, h3, fun e he => absurd he (by simp), ?_, List.nodup_nil⟩
  first | exact True.intro | exact .nil | rfl
theorem dg_getItem {Q : Value → Shared → Prop} (hu : A.units + 1 < cLine) (I : Inv X pins σ H s) (g : DG X.K H a y (some v)) (ry : RelV y u) (h : ∀ w' s', Inv X pins σ H s' → RelV v w' → Q w' s') :
    wpAny (model X.prog X.w) A (getItem (.ref a) u) Q E s := by
  rcases g with ⟨kvs, k, e, ey, l⟩ | ⟨kvs, k, b, e, ey, eb, l⟩ | ⟨_, _, _, _, _, z⟩ | ⟨_, _, _, z⟩
  · exact d_getItem hu I (.inl ⟨kvs, k, e, ey, l⟩) ry h
  · subst ey
    cases (show u = Value.ref b from ry)
    obtain ⟨z, hd, xs, rel, dd⟩ := dt_rd I.hok e
    obtain ⟨w', hw, rw'⟩ := RelO.some_of (v := v) (o := (atKey xs k).map (·.2)) (by rw [l]; exact rel.val k)
    obtain ⟨p, hp, hp2⟩ := Option.map_eq_some_iff.mp hw
    refine wpAny_getItem_heap (tupleKind_room_in1 hu) (key_ofK I eb) dd hp ?_
    rw [hp2]
    exact h w' _ (I.tok _) rw'
  · cases z
  · cases z
theorem dg_in {Q : Value → Shared → Prop} (hu : A.units + 1 < cLine) (I : Inv X pins σ H s) (g : DG X.K H a y o) (ry : RelV y u) (h : ∀ s', Inv X pins σ H s' → Q (.bool o.isSome) s') :
    wpAny (model X.prog X.w) A (compareOp .In u (.ref a)) Q E s := by
  rcases g with ⟨kvs, k, e, ey, l⟩ | ⟨kvs, k, b, e, ey, eb, l⟩ | ⟨k, b, e, ey, eb, l⟩ | ⟨k, e, ey, l⟩
  · exact d_in hu I (.inl ⟨kvs, k, e, ey, l⟩) ry h
  · subst ey
    cases (show u = Value.ref b from ry)
    obtain ⟨z, hd, xs, rel, dd⟩ := dt_rd I.hok e
    refine wpAny_in_heap (tupleKind_room_in1 hu) (key_ofK I eb) hd dd ?_
    have q := (rel.val k).isSome_eq
    rw [Option.isSome_map] at q
    rw [← q, ← l]
    exact h _ (I.tok _)
  · subst ey
    cases (show u = Value.ref b from ry)
    obtain ⟨hd, dd⟩ := dk_empty_H I e
    refine wpAny_in_heap (tupleKind_room_in1 hu) (key_ofK I eb) hd dd ?_
    subst l
    exact h _ (I.tok _)
  · subst ey
    obtain ⟨hd, dd⟩ := dt_empty_K I e
    refine wpAny_in_of (kV_is ry) hd dd.mapOf ?_
    subst l
    exact h _ (I.tok _)
theorem dg_notIn {Q : Value → Shared → Prop} (hu : A.units + 1 < cLine) (I : Inv X pins σ H s) (g : DG X.K H a y o) (ry : RelV y u) (h : ∀ s', Inv X pins σ H s' → Q (.bool (!o.isSome)) s') :
    wpAny (model X.prog X.w) A (compareOp .NotIn u (.ref a)) Q E s := by
  rcases g with ⟨kvs, k, e, ey, l⟩ | ⟨kvs, k, b, e, ey, eb, l⟩ | ⟨k, b, e, ey, eb, l⟩ | ⟨k, e, ey, l⟩
  · exact d_notIn hu I (.inl ⟨kvs, k, e, ey, l⟩) ry h
  · subst ey
    cases (show u = Value.ref b from ry)
    obtain ⟨z, hd, xs, rel, dd⟩ := dt_rd I.hok e
    refine wpAny_notIn_heap (tupleKind_room_in1 hu) (key_ofK I eb) hd dd ?_
    have q := (rel.val k).isSome_eq
    rw [Option.isSome_map] at q
    rw [← q, ← l]
    exact h _ (I.tok _)
  · subst ey
    cases (show u = Value.ref b from ry)
    obtain ⟨hd, dd⟩ := dk_empty_H I e
    refine wpAny_notIn_heap (tupleKind_room_in1 hu) (key_ofK I eb) hd dd ?_
    subst l
    exact h _ (I.tok _)
  · subst ey
    obtain ⟨hd, dd⟩ := dt_empty_K I e
    refine wpAny_notIn_of (kV_is ry) hd dd.mapOf ?_
    subst l
    exact h _ (I.tok _)
end
/-- the data behind a looked up value -/
def OptR (K : PySem.W.Frag) (F : Addr → Prop) (H : Hp) : Option V → Option D → Prop
  | some v, some d => RepD K F H v d
  | none, none => True
  | _, _ => False
theorem OptR.isSome {o : Option V} {q : Option D} (r : OptR K F H o q) : o.isSome = q.isSome := by
  cases o <;> cases q <;> first | rfl | exact r.elim
theorem OptR.some_of {o : Option V} {d : D} (r : OptR K F H o (some d)) : ∃ v, o = some v ∧ RepD K F H v d := by
  cases o with
  | none => exact r.elim
  | some v => exact ⟨v, rfl, r⟩
theorem dget_nil (k : D) : dget [] k = none := rfl
theorem dget_pos {p : D × D} {r : List (D × D)} {k : D} (e : p.1 = k) : dget (p :: r) k = some p.2 := by simp [dget, List.find?_cons, e]
theorem dget_neg {p : D × D} {r : List (D × D)} {k : D} (e : ¬ p.1 = k) : dget (p :: r) k = dget r k := by simp [dget, List.find?_cons, e]
theorem RepP.val {κ : Type} [DecidableEq κ] {g : κ → D} (hg : ∀ a b, g a = g b → a = b) (k : κ) : ∀ {kvs : List (κ × V)} {qs : List (D × D)}, RepP K F H (kvs.map fun p => (g p.1, p.2)) qs → OptR K F H (valV kvs k) (dget qs (g k))
  | [], _, r => by rw [List.map_nil] at r; cases r; exact True.intro
  | p :: kvs, _, r => by
    rw [List.map_cons] at r
    cases r with
    | cons a t =>
      have ih := RepP.val hg k t
      by_cases e : p.1 = k
      · rw [valV_pos e, dget_pos (by rw [e])]; exact a
      · rw [valV_neg e, dget_neg (fun z => e (hg _ _ z))]; exact ih
theorem RepP.keys1 : ∀ {ps : List (D × V)} {qs : List (D × D)}, RepP K F H ps qs → ps.map (·.1) = qs.map (·.1)
  | _, _, .nil => rfl
  | _, _, .cons a t => by rw [List.map_cons, List.map_cons, RepP.keys1 t]
theorem keyD_not_T (k : Key) : keyT (keyD k) = false := by cases k <;> rfl
theorem keyT_not_1 (ks : List Key) : key1 (.tup (ks.map keyD)) = false := rfl
/-- asking a dict that is data -/
theorem dg_of {a : Addr} {ps : List (D × V)} {qs : List (D × D)} {v : V} {k : D} (dv : DView H a ps) (rp : RepP K F H ps qs) (rk : RdR K F H v k) (ok : askable qs k = true) : ∃ o, DG K H a v o ∧ OptR K F H o (dget qs k) := by
  unfold askable at ok
  rw [Bool.or_eq_true, Bool.and_eq_true, Bool.and_eq_true] at ok
  have hk := rp.keys1
  rcases ok with ⟨h1, h2⟩ | ⟨h1, h2⟩
  · obtain ⟨k, rfl⟩ := key1_of h1
    have fl : (keyD k).flat = true := by cases k <;> rfl
    have ev := (rk.flat fl).key
    subst ev
    cases dv with
    | k e => exact ⟨_, .inl ⟨_, k, e, rfl, rfl⟩, rp.val (fun _ _ => keyD_inj) k⟩
    | @t kvs e =>
      cases kvs with
      | nil => rw [List.map_nil] at rp; cases rp; exact ⟨none, .inr (.inr (.inr ⟨k, e, rfl, rfl⟩)), True.intro⟩
      | cons p kvs =>
        cases qs with
        | nil => cases rp
        | cons q qs =>
          rw [List.all_cons, Bool.and_eq_true] at h2
          rw [List.map_cons, List.map_cons, List.map_cons] at hk
          injection hk with hk1 _
          have z := h2.1
          rw [← show (D.tup (p.1.map keyD)) = q.1 from hk1, keyT_not_1] at z
          cases z
  · obtain ⟨ks, rfl⟩ := keyT_of h1
    obtain ⟨b, vs, rfl, hb, rb⟩ := rk.tup
    have ev := rb.keys
    subst ev
    cases dv with
    | t e => exact ⟨_, .inr (.inl ⟨_, ks, b, e, rfl, hb, rfl⟩), rp.val (g := fun ks => .tup (ks.map keyD)) (fun x y z => keyDs_inj (by injection z)) ks⟩
    | @k kvs e =>
      cases kvs with
      | nil => rw [List.map_nil] at rp; cases rp; exact ⟨none, .inr (.inr (.inl ⟨ks, b, e, rfl, hb, rfl⟩)), True.intro⟩
      | cons p kvs =>
        cases qs with
        | nil => cases rp
        | cons q qs =>
          rw [List.all_cons, Bool.and_eq_true] at h2
          rw [List.map_cons, List.map_cons, List.map_cons] at hk
          injection hk with hk1 _
          have z := h2.1
          rw [← show keyD p.1 = q.1 from hk1, keyD_not_T] at z
          cases z
end

/-! ### comparisons -/
section
variable {clsV : Nat → Value} {X : Cx} {W : WX} {a b c : Expr} {pos : Pos} {ma mb mc : Sem Opd}
def ltR : R2 := fun x y H Q => rI0 (fun i j => .bl (decide (i < j))) x y H Q ∨ (∃ i j, x = .str i ∧ y = .str j ∧ Q (.bl (decide (i.cps.toList < j.cps.toList))) H)
theorem ltR_ok : OpR X (compareOp .Lt) ltR := op_lt.or op_lt_str
def leR : R2 := fun x y H Q => rI0 (fun i j => .bl (decide (i ≤ j))) x y H Q ∨ (∃ i j, x = .str i ∧ y = .str j ∧ Q (.bl (!decide (j.cps.toList < i.cps.toList))) H)
theorem leR_ok : OpR X (compareOp .LtE) leR := op_le.or op_le_str
theorem lt_k : CkOk X ltR (cmpop .lt) := by
  intro F H own ρ σ Q v w d e c er r1 r2 hf k
  cases d <;> cases e <;> (first | (simp only [cmpop] at hf; done) | skip) <;> simp only [cmpop, Option.some.injEq, reduceCtorEq] at hf
  · rw [r1.int, r2.int]; subst hf; exact .inl ⟨_, _, rfl, rfl, k H F own er Stp.refl⟩
  · rw [r1.str, r2.str]; subst hf; exact .inr ⟨_, _, rfl, rfl, by simpa using k H F own er Stp.refl⟩
theorem le_k : CkOk X leR (cmpop .le) := by
  intro F H own ρ σ Q v w d e c er r1 r2 hf k
  cases d <;> cases e <;> (first | (simp only [cmpop] at hf; done) | skip) <;> simp only [cmpop, Option.some.injEq, reduceCtorEq] at hf
  · rw [r1.int, r2.int]; subst hf; exact .inl ⟨_, _, rfl, rfl, k H F own er Stp.refl⟩
  · rw [r1.str, r2.str]; subst hf; exact .inr ⟨_, _, rfl, rfl, by simpa using k H F own er Stp.refl⟩
theorem gt_k : CkOk X (rI0 fun i j => .bl (decide (j < i))) (cmpop .gt) := by
  intro F H own ρ σ Q v w d e c er r1 r2 hf k
  cases d <;> cases e <;> (first | (simp only [cmpop] at hf; done) | skip) <;> simp only [cmpop, Option.some.injEq, reduceCtorEq] at hf
  rw [r1.int, r2.int]; subst hf; exact ⟨_, _, rfl, rfl, k H F own er Stp.refl⟩
theorem ge_k : CkOk X (rI0 fun i j => .bl (decide (j ≤ i))) (cmpop .ge) := by
  intro F H own ρ σ Q v w d e c er r1 r2 hf k
  cases d <;> cases e <;> (first | (simp only [cmpop] at hf; done) | skip) <;> simp only [cmpop, Option.some.injEq, reduceCtorEq] at hf
  rw [r1.int, r2.int]; subst hf; exact ⟨_, _, rfl, rfl, k H F own er Stp.refl⟩
def eqR (K : PySem.W.Frag) : R2 := fun x y H Q => rEq x y H Q ∨ rEqD K x y H Q
theorem eqR_ok (hu : X.A.units + 64 < cLine) : OpR X (compareOp .Eq) (eqR X.K) := op_eq.or (op_eqD hu)
def neR (K : PySem.W.Frag) : R2 := fun x y H Q => rNe x y H Q ∨ rNeD K x y H Q
theorem neR_ok (hu : X.A.units + 64 < cLine) : OpR X (compareOp .NotEq) (neR X.K) := op_ne.or (op_neD hu)
theorem mkS_dec (a b : List Nat) : decide (V.str (mkS a) = V.str (mkS b)) = decide (a = b) := by
  by_cases h : a = b
  · subst h; simp
  · rw [decide_eq_false h, decide_eq_false (fun z => h (mkS_inj (by injection z)))]
theorem eq_str (d e : List Nat) : cmpop .eq (.str d) (.str e) = some (decide (d = e)) := rfl
theorem ne_str (d e : List Nat) : cmpop .ne (.str d) (.str e) = some (!decide (d = e)) := rfl
theorem eq_deep {d e : D} {c : Bool} (h : cmpop .eq d e = some c) : (∃ a b, d = .str a ∧ e = .str b) ∨ (d.plain = true ∧ e.plain = true ∧ d.depth ≤ 64 ∧ e.depth ≤ 64 ∧ c = d.eqv e) := by
  by_cases hs : ∃ a b, d = .str a ∧ e = .str b
  · exact .inl hs
  · have : cmpop .eq d e = if d.plain && e.plain && decide (d.depth ≤ 64) && decide (e.depth ≤ 64) then some (d.eqv e) else none := by
      cases d <;> cases e <;> first | rfl | exact absurd ⟨_, _, rfl, rfl⟩ hs
    rw [this] at h
    simp only [Option.ite_none_right_eq_some, Bool.and_eq_true, decide_eq_true_eq, Option.some.injEq] at h
    exact .inr ⟨h.1.1.1.1, h.1.1.1.2, h.1.1.2, h.1.2, h.2.symm⟩
theorem ne_deep {d e : D} {c : Bool} (h : cmpop .ne d e = some c) : (∃ a b, d = .str a ∧ e = .str b) ∨ (d.plain = true ∧ e.plain = true ∧ d.depth ≤ 64 ∧ e.depth ≤ 64 ∧ c = !d.eqv e) := by
  by_cases hs : ∃ a b, d = .str a ∧ e = .str b
  · exact .inl hs
  · have : cmpop .ne d e = if d.plain && e.plain && decide (d.depth ≤ 64) && decide (e.depth ≤ 64) then some (!d.eqv e) else none := by
      cases d <;> cases e <;> first | rfl | exact absurd ⟨_, _, rfl, rfl⟩ hs
    rw [this] at h
    simp only [Option.ite_none_right_eq_some, Bool.and_eq_true, decide_eq_true_eq, Option.some.injEq] at h
    exact .inr ⟨h.1.1.1.1, h.1.1.1.2, h.1.1.2, h.1.2, h.2.symm⟩
theorem eq_k : CkOk X (eqR X.K) (cmpop .eq) := by
  intro F H own ρ σ Q v w d e c er r1 r2 hf k
  rcases eq_deep hf with ⟨x, y, rfl, rfl⟩ | ⟨p1, p2, d1, d2, rfl⟩
  · rw [eq_str] at hf
    cases hf
    rw [r1.str, r2.str]
    exact .inl ⟨rfl, by rw [mkS_dec]; exact k H F own er Stp.refl⟩
  · refine .inr ⟨_, _, r1.dp p1, r2.dp p2, D.shaped_py p1 d1, D.shaped_py p2 d2, ?_⟩
    rw [D.eqv_py]
    exact k H F own er Stp.refl
theorem ne_k : CkOk X (neR X.K) (cmpop .ne) := by
  intro F H own ρ σ Q v w d e c er r1 r2 hf k
  rcases ne_deep hf with ⟨x, y, rfl, rfl⟩ | ⟨p1, p2, d1, d2, rfl⟩
  · rw [ne_str] at hf
    cases hf
    rw [r1.str, r2.str]
    exact .inl ⟨rfl, by rw [mkS_dec]; exact k H F own er Stp.refl⟩
  · refine .inr ⟨_, _, r1.dp p1, r2.dp p2, D.shaped_py p1 d1, D.shaped_py p2 d2, ?_⟩
    rw [D.eqv_py]
    exact k H F own er Stp.refl
/-- in a dict, by values -/
def rInG (K : PySem.W.Frag) (neg : Bool) : R2 := fun x y H Q => ∃ a o, y = .ref a ∧ DG K H a x o ∧ Q (.bl (if neg then !o.isSome else o.isSome)) H
theorem op_inG (hu : X.A.units + 1 < cLine) : OpR X (compareOp .In) (rInG X.K false) := by
  intro pins s σ H x y v u Q I rx ry h
  obtain ⟨a, o, rfl, g, q⟩ := h
  cases ry
  exact dg_in hu I g rx fun s' I' => ⟨.bl _, H, I', rfl, q⟩
theorem op_ninG (hu : X.A.units + 1 < cLine) : OpR X (compareOp .NotIn) (rInG X.K true) := by
  intro pins s σ H x y v u Q I rx ry h
  obtain ⟨a, o, rfl, g, q⟩ := h
  cases ry
  exact dg_notIn hu I g rx fun s' I' => ⟨.bl _, H, I', rfl, q⟩
def innR (K : PySem.W.Frag) : R2 := fun x y H Q => ((∃ (c : Nat) (z : Str), x = .str ⟨#[c]⟩ ∧ y = .str z ∧ Q (.bl (decide (c ∈ z.cps.toList))) H) ∨ rIn K false x y H Q) ∨ rInG K false x y H Q
theorem innR_ok (hu : X.A.units + 1 < cLine) : OpR X (compareOp .In) (innR X.K) := (op_in_sign.or op_in_seq).or (op_inG hu)
def ninR (K : PySem.W.Frag) : R2 := fun x y H Q => ((∃ (c : Nat) (z : Str), x = .str ⟨#[c]⟩ ∧ y = .str z ∧ Q (.bl (!decide (c ∈ z.cps.toList))) H) ∨ rIn K true x y H Q) ∨ rInG K true x y H Q
theorem ninR_ok (hu : X.A.units + 1 < cLine) : OpR X (compareOp .NotIn) (ninR X.K) := (op_notIn_sign.or op_notIn_seq).or (op_ninG hu)
theorem inn_cases {d e : D} {c : Bool} (h : cmpop .inn d e = some c) : (∃ x t, d = .str [x] ∧ e = .str t ∧ c = decide (x ∈ t)) ∨ (∃ xs, (e = .lst xs ∨ e = .tup xs) ∧ d.flat = true ∧ xs.all D.flat = true ∧ c = xs.any fun x => x.eqv d) ∨ ∃ kvs, e = .dic kvs ∧ askable kvs d = true ∧ c = (dget kvs d).isSome := by
  unfold cmpop at h
  split at h <;> simp only [Option.some.injEq, reduceCtorEq, Option.ite_none_right_eq_some, Bool.and_eq_true] at h <;> (try contradiction)
  · exact .inl ⟨_, _, rfl, rfl, h.symm⟩
  · exact .inr (.inl ⟨_, .inl rfl, h.1.1, h.1.2, h.2.symm⟩)
  · exact .inr (.inl ⟨_, .inr rfl, h.1.1, h.1.2, h.2.symm⟩)
  · exact .inr (.inr ⟨_, rfl, h.1, h.2.symm⟩)
theorem nin_cases {d e : D} {c : Bool} (h : cmpop .nin d e = some c) : cmpop .inn d e = some (!c) := by
  unfold cmpop at h ⊢
  cases d with
  | str l =>
    cases e with
    | str t =>
      match l, h with
      | [x], h => simp only [Option.some.injEq] at h ⊢; rw [← h, Bool.not_not]
      | [], h => simp at h
      | _ :: _ :: _, h => simp at h
    | lst xs => simp only [Option.ite_none_right_eq_some, Option.some.injEq] at h ⊢; exact ⟨h.1, by rw [← h.2, Bool.not_not]⟩
    | tup xs => simp only [Option.ite_none_right_eq_some, Option.some.injEq] at h ⊢; exact ⟨h.1, by rw [← h.2, Bool.not_not]⟩
    | dic xs => simp only [Option.ite_none_right_eq_some, Option.some.injEq] at h ⊢; exact ⟨h.1, by rw [← h.2, Bool.not_not]⟩
    | _ => simp at h
  | _ =>
    cases e with
    | lst xs => simp only [Option.ite_none_right_eq_some, Option.some.injEq] at h ⊢; exact ⟨h.1, by rw [← h.2, Bool.not_not]⟩
    | tup xs => simp only [Option.ite_none_right_eq_some, Option.some.injEq] at h ⊢; exact ⟨h.1, by rw [← h.2, Bool.not_not]⟩
    | dic xs => simp only [Option.ite_none_right_eq_some, Option.some.injEq] at h ⊢; exact ⟨h.1, by rw [← h.2, Bool.not_not]⟩
    | _ => simp at h
theorem inn_any {K : PySem.W.Frag} {F : Addr → Prop} {H : Hp} {v w : V} {d e : D} {c : Bool} (r1 : RdR K F H v d) (r2 : RdR K F H w e) (hf : cmpop .inn d e = some c) :
    (∃ (x : Nat) (z : Str), v = .str ⟨#[x]⟩ ∧ w = .str z ∧ c = decide (x ∈ z.cps.toList)) ∨ (∃ p xs, w = .ref p ∧ (SqL K H p xs ∨ SqT K H p xs) ∧ flatV v = true ∧ xs.all flatV = true ∧ c = inV v xs) ∨ ∃ a o, w = .ref a ∧ DG K H a v o ∧ c = o.isSome := by
  rcases inn_cases hf with ⟨x, t, rfl, rfl, rfl⟩ | ⟨xs, he, fd, fx, rfl⟩ | ⟨kvs, rfl, ok, rfl⟩
  · exact .inl ⟨x, mkS t, by rw [r1.str], by rw [r2.str], by simp⟩
  · have rv := r1.flat fd
    rcases he with rfl | rfl
    · obtain ⟨a, vs, rfl, ha, ra⟩ := r2.lst
      exact .inr (.inl ⟨a, vs, rfl, .inl (.inl ha), rv.flatV fd, ra.flats fx, (RepL.inV rv fd ra fx).symm⟩)
    · obtain ⟨a, vs, rfl, ha, ra⟩ := r2.tup
      exact .inr (.inl ⟨a, vs, rfl, .inr ha, rv.flatV fd, ra.flats fx, (RepL.inV rv fd ra fx).symm⟩)
  · obtain ⟨a, ps, rfl, dv, rp⟩ := r2.dic
    obtain ⟨o, g, ro⟩ := dg_of dv rp r1 ok
    exact .inr (.inr ⟨a, o, rfl, g, ro.isSome.symm⟩)
theorem inn_k : CkOk X (innR X.K) (cmpop .inn) := by
  intro F H own ρ σ Q v w d e c er r1 r2 hf k
  rcases inn_any r1 r2 hf with ⟨x, z, rfl, rfl, rfl⟩ | ⟨p, xs, rfl, h1, h2, h3, rfl⟩ | ⟨a, o, rfl, g, rfl⟩
  · exact .inl (.inl ⟨x, z, rfl, rfl, k H F own er Stp.refl⟩)
  · exact .inl (.inr ⟨p, xs, rfl, h1, h2, h3, k H F own er Stp.refl⟩)
  · exact .inr ⟨a, o, rfl, g, k H F own er Stp.refl⟩
theorem nin_k : CkOk X (ninR X.K) (cmpop .nin) := by
  intro F H own ρ σ Q v w d e c er r1 r2 hf k
  have k' := k H F own er Stp.refl
  rcases inn_any r1 r2 (nin_cases hf) with ⟨x, z, rfl, rfl, hc⟩ | ⟨p, xs, rfl, h1, h2, h3, hc⟩ | ⟨a, o, rfl, g, hc⟩
  · exact .inl (.inl ⟨x, z, rfl, rfl, by rw [← hc, Bool.not_not]; exact k'⟩)
  · exact .inl (.inr ⟨p, xs, rfl, h1, h2, h3, by rw [if_pos rfl, ← hc, Bool.not_not]; exact k'⟩)
  · exact .inr ⟨a, o, rfl, g, by rw [if_pos rfl, ← hc, Bool.not_not]; exact k'⟩
end
end DL
/-! DL over the model, 4: subscripts, slices, tests, displays, calls of built-ins. -/
namespace DL
open PySem PySem.Spec PyProof.Rows L2
section
variable {clsV : Nat → Value} {X : Cx} {W : WX} {a b c e : Expr} {es : List Expr} {pos : Pos} {ma mb mc : Sem Opd}
/-! ### comparisons as written -/
theorem t_lt (ha : EO clsV W X a ma) (hb : EO clsV W X b mb) : ET clsV W X (.Compare a [.Lt] [b] pos) (sCmp .lt ma mb) := e_cmpT ltR_ok lt_k ha hb (nomark _)
theorem t_le (ha : EO clsV W X a ma) (hb : EO clsV W X b mb) : ET clsV W X (.Compare a [.LtE] [b] pos) (sCmp .le ma mb) := e_cmpT leR_ok le_k ha hb (nomark _)
theorem t_gt (ha : EO clsV W X a ma) (hb : EO clsV W X b mb) : ET clsV W X (.Compare a [.Gt] [b] pos) (sCmp .gt ma mb) := e_cmpT op_gt gt_k ha hb (nomark _)
theorem t_ge (ha : EO clsV W X a ma) (hb : EO clsV W X b mb) : ET clsV W X (.Compare a [.GtE] [b] pos) (sCmp .ge ma mb) := e_cmpT op_ge ge_k ha hb (nomark _)
theorem t_eq (hu : X.A.units + 64 < cLine) (ha : EO clsV W X a ma) (hb : EO clsV W X b mb) : ET clsV W X (.Compare a [.Eq] [b] pos) (sCmp .eq ma mb) := e_cmpT (eqR_ok hu) eq_k ha hb (nomark _)
theorem t_ne (hu : X.A.units + 64 < cLine) (ha : EO clsV W X a ma) (hb : EO clsV W X b mb) : ET clsV W X (.Compare a [.NotEq] [b] pos) (sCmp .ne ma mb) := e_cmpT (neR_ok hu) ne_k ha hb (nomark _)
theorem t_inn (hu : X.A.units + 64 < cLine) (ha : EO clsV W X a ma) (hb : EO clsV W X b mb) (hm : behindInMarks .In b = false := by rfl) : ET clsV W X (.Compare a [.In] [b] pos) (sCmp .inn ma mb) := e_cmpT (innR_ok (by omega)) inn_k ha hb hm
theorem t_nin (hu : X.A.units + 64 < cLine) (ha : EO clsV W X a ma) (hb : EO clsV W X b mb) (hm : behindInMarks .NotIn b = false := by rfl) : ET clsV W X (.Compare a [.NotIn] [b] pos) (sCmp .nin ma mb) := e_cmpT (ninR_ok (by omega)) nin_k ha hb hm
theorem e_lt (ha : EO clsV W X a ma) (hb : EO clsV W X b mb) : EC clsV W X (.Compare a [.Lt] [b] pos) (sBl (sCmp .lt ma mb)) := e_cmp ltR_ok lt_k ha hb (nomark _)
theorem e_le (ha : EO clsV W X a ma) (hb : EO clsV W X b mb) : EC clsV W X (.Compare a [.LtE] [b] pos) (sBl (sCmp .le ma mb)) := e_cmp leR_ok le_k ha hb (nomark _)
theorem e_gt (ha : EO clsV W X a ma) (hb : EO clsV W X b mb) : EC clsV W X (.Compare a [.Gt] [b] pos) (sBl (sCmp .gt ma mb)) := e_cmp op_gt gt_k ha hb (nomark _)
theorem e_ge (ha : EO clsV W X a ma) (hb : EO clsV W X b mb) : EC clsV W X (.Compare a [.GtE] [b] pos) (sBl (sCmp .ge ma mb)) := e_cmp op_ge ge_k ha hb (nomark _)
theorem e_eq (hu : X.A.units + 64 < cLine) (ha : EO clsV W X a ma) (hb : EO clsV W X b mb) : EC clsV W X (.Compare a [.Eq] [b] pos) (sBl (sCmp .eq ma mb)) := e_cmp (eqR_ok hu) eq_k ha hb (nomark _)
theorem e_ne (hu : X.A.units + 64 < cLine) (ha : EO clsV W X a ma) (hb : EO clsV W X b mb) : EC clsV W X (.Compare a [.NotEq] [b] pos) (sBl (sCmp .ne ma mb)) := e_cmp (neR_ok hu) ne_k ha hb (nomark _)
theorem e_inn (hu : X.A.units + 64 < cLine) (ha : EO clsV W X a ma) (hb : EO clsV W X b mb) (hm : behindInMarks .In b = false := by rfl) : EC clsV W X (.Compare a [.In] [b] pos) (sBl (sCmp .inn ma mb)) := e_cmp (innR_ok (by omega)) inn_k ha hb hm
theorem e_nin (hu : X.A.units + 64 < cLine) (ha : EO clsV W X a ma) (hb : EO clsV W X b mb) (hm : behindInMarks .NotIn b = false := by rfl) : EC clsV W X (.Compare a [.NotIn] [b] pos) (sBl (sCmp .nin ma mb)) := e_cmp (ninR_ok (by omega)) nin_k ha hb hm
/-- one operand -/
theorem wp_s1 {γ δ : Type} {Rel : RelT γ δ} {f : D → Option γ} {σ : St} {H : Hp} {Q : δ → Hp → Prop} (bk : Back Rel) {ta : TE} {r : V → Hp → Prop}
    (ha : ∀ H Q, tG clsV X.K W (relO X.K) ma σ H Q → ta σ H Q) (h : tG clsV X.K W Rel (s1 ma f) σ H Q)
    (hr : ∀ (F : Addr → Prop) (H2 : Hp) (own : Ow) (ρ : Env) (v : V) (d : D) (c : γ), ER X.K F H2 own ρ σ → RdR X.K F H2 v d → f d = some c →
      (∀ b F' H' own', ER X.K F' H' own' ρ σ → Stp F H2 own F' H' own' → Rel F' H2 H' own' σ b c → Q b H') → r v H2) :
    ta σ H fun x H1 => r x H1 := by
  obtain ⟨ρ, F, own, er, h⟩ := h
  refine ha _ _ (tG.mono (wpS.bind (Rel1 := relO X.K) bk er h) fun x H1 ⟨o1, ρ1, F1, own1, e1, s1, r1, h1⟩ => ?_)
  obtain ⟨d, rd, h3⟩ := wpS.rdO e1 r1 h1
  obtain ⟨c, hc, k⟩ := wpS.opt h3
  exact hr F1 H1 own1 ρ1 x d c e1 rd hc k
theorem isN_dec {K : PySem.W.Frag} {F : Addr → Prop} {H : Hp} {v : V} {d : D} (r : RdR K F H v d) : decide (v = .non) = d.isNon := by
  rcases r with r | ⟨a, rfl, o⟩
  · cases r <;> rfl
  · cases o <;> rfl
theorem e_isN {j pos'} (ha : EO clsV W X a ma) : EC clsV W X (.Compare a [.Is] [.Constant .none j pos'] pos) (sBl (sIsN ma)) :=
  PE.imp (pe_cmp (pc_isN ha) rfl) fun σ H Q h => wp_s1 (r := fun x H1 => Q (.bl (decide (x = .non))) H1) back_E (fun _ _ q => q) h.sBl fun F H2 own ρ v d c er r1 hc k => by
    simp only [Option.some.injEq] at hc
    rw [isN_dec r1, hc]; exact k c F H2 own er Stp.refl rfl
theorem e_notN {j pos'} (ha : EO clsV W X a ma) : EC clsV W X (.Compare a [.IsNot] [.Constant .none j pos'] pos) (sBl (sNotN ma)) :=
  PE.imp (pe_cmp (pc_notN ha) rfl) fun σ H Q h => wp_s1 (r := fun x H1 => Q (.bl (!decide (x = .non))) H1) back_E (fun _ _ q => q) h.sBl fun F H2 own ρ v d c er r1 hc k => by
    simp only [Option.some.injEq] at hc
    have : (!decide (v = .non)) = c := by rw [isN_dec r1, ← hc]
    rw [this]; exact k c F H2 own er Stp.refl rfl
theorem t_isN {j pos'} (ha : EO clsV W X a ma) : ET clsV W X (.Compare a [.Is] [.Constant .none j pos'] pos) (sIsN ma) :=
  PT.imp (pt_cmp (pc_isN ha) rfl) fun σ H Q h => wp_s1 (r := fun x H1 => ∃ c, V.bl (decide (x = .non)) = .bl c ∧ Q c H1) back_E (fun _ _ q => q) h fun F H2 own ρ v d c er r1 hc k => by
    simp only [Option.some.injEq] at hc
    rw [isN_dec r1, hc]; exact ⟨c, rfl, k c F H2 own er Stp.refl rfl⟩
theorem t_notN {j pos'} (ha : EO clsV W X a ma) : ET clsV W X (.Compare a [.IsNot] [.Constant .none j pos'] pos) (sNotN ma) :=
  PT.imp (pt_cmp (pc_notN ha) rfl) fun σ H Q h => wp_s1 (r := fun x H1 => ∃ c, V.bl (!decide (x = .non)) = .bl c ∧ Q c H1) back_E (fun _ _ q => q) h fun F H2 own ρ v d c er r1 hc k => by
    simp only [Option.some.injEq] at hc
    have : (!decide (v = .non)) = c := by rw [isN_dec r1, ← hc]
    rw [this]; exact ⟨c, rfl, k c F H2 own er Stp.refl rfl⟩

/-! ### and, or, not, if, as tests and as values -/
variable {tA tB : Sem Bool} {rest : List Expr}
/-- a test, then by its answer -/
theorem wp_if {γ δ : Type} {Rel : RelT γ δ} {m : Sem Bool} {k1 k2 : Sem γ} {σ : St} {H : Hp} {Q : δ → Hp → Prop} (bk : Back Rel) (h : tG clsV X.K W Rel (sIf m k1 k2) σ H Q) :
    tG clsV X.K W relE m σ H fun b H1 => if b = true then tG clsV X.K W Rel k1 σ H1 Q else tG clsV X.K W Rel k2 σ H1 Q := by
  obtain ⟨ρ, F, own, er, h⟩ := h
  refine tG.mono (wpS.bind (Rel1 := relE) bk er h) fun b H1 ⟨k, ρ1, F1, own1, e1, s1, r1, h1⟩ => ?_
  cases r1
  cases b with
  | true => rw [if_pos rfl]; exact ⟨ρ1, F1, own1, e1, h1⟩
  | false => rw [if_neg Bool.false_ne_true]; exact ⟨ρ1, F1, own1, e1, h1⟩
theorem tG.pureE {k : Bool} {σ : St} {H : Hp} {Q : Bool → Hp → Prop} {K : PySem.W.Frag} (h : tG clsV K W relE (pure' k) σ H Q) : Q k H := by
  obtain ⟨ρ, F, own, er, h⟩ := h
  exact h k F H own er Stp.refl rfl
theorem w_and1 (ha : ET clsV W X a tA) : EW clsV W X (.BoolOp .And [a] pos) tA := pw_and1 ha
theorem w_or1 (ha : ET clsV W X a tA) : EW clsV W X (.BoolOp .Or [a] pos) tA := pw_or1 ha
theorem w_and (ha : ET clsV W X a tA) (hb : EW clsV W X (.BoolOp .And (b :: rest) pos) tB) : EW clsV W X (.BoolOp .And (a :: b :: rest) pos) (sAnd tA tB) :=
  PW.imp (pw_and ha hb) fun σ H Q h => tG.mono (wp_if back_E h) fun k H1 q => by
    cases k with
    | true => rw [if_pos rfl] at q ⊢; exact q
    | false => rw [if_neg Bool.false_ne_true] at q ⊢; exact q.pureE
theorem w_or (ha : ET clsV W X a tA) (hb : EW clsV W X (.BoolOp .Or (b :: rest) pos) tB) : EW clsV W X (.BoolOp .Or (a :: b :: rest) pos) (sOr tA tB) :=
  PW.imp (pw_or ha hb) fun σ H Q h => tG.mono (wp_if back_E h) fun k H1 q => by
    cases k with
    | true => rw [if_pos rfl] at q ⊢; exact q.pureE
    | false => rw [if_neg Bool.false_ne_true] at q ⊢; exact q
theorem t_w (h : EW clsV W X e tA) : ET clsV W X e tA := h.pt
theorem t_not (ha : ET clsV W X a tA) : ET clsV W X (.UnaryOp .Not a pos) (sNot tA) :=
  PT.imp (pt_not ha) fun σ H Q ⟨ρ, F, own, er, h⟩ => tG.mono (wpS.bind (Rel1 := relE) back_E er h) fun b H1 ⟨k, ρ1, F1, own1, e1, s1, r1, h1⟩ => by
    cases r1
    exact h1 _ F1 H1 own1 e1 Stp.refl rfl
/-- a value that is a truth value, as a test -/
theorem tG.bOf {m : Sem Cell} {σ : St} {H : Hp} {Q : Bool → Hp → Prop} {K : PySem.W.Frag} (h : tG clsV K W relE (bOf m) σ H Q) : tG clsV K W (relC K) m σ H fun v H' => ∃ c, v = .bl c ∧ Q c H' := by
  obtain ⟨ρ, F, own, er, h⟩ := h
  refine ⟨ρ, F, own, er, ?_⟩
  unfold wpS DL.bOf bind' opt at h
  unfold wpS
  cases em : m ρ with
  | bad => rw [em] at h; exact h
  | exc x ρ' => rw [em] at h; exact h
  | ok c ρ' =>
    rw [em] at h
    intro v F' H' own' e' s' r
    cases c with
    | fr d =>
      cases d with
      | bl k =>
        have r' : RepD K F' H' v (.bl k) := r
        cases r'
        exact ⟨k, rfl, h k F' H' own' e' s' rfl⟩
      | _ => exact h.elim
    | _ => exact h.elim
theorem t_val {m : Sem Cell} (h : EC clsV W X e m) (he : ∀ whole, isTrue e X.env whole = (do let v ← whole; standAt e.pos; holding [v] (truthy v)) := by intro _; rfl) : ET clsV W X e (bOf m) :=
  PT.imp (pt_val h he) fun σ H Q h => h.bOf
theorem t_truth (ha : EO clsV W X a ma) (he : ∀ whole, isTrue a X.env whole = (do let v ← whole; standAt a.pos; holding [v] (truthy v)) := by intro _; rfl) : ET clsV W X a (sTru ma) :=
  PT.imp (pt_truth ha he) fun σ H Q h => wp_s1 (r := fun x H1 => ∃ k, TruV X.K x H1 k ∧ Q k H1) back_E (fun _ _ q => q) h fun F H2 own ρ v d c er r1 hc k => by
    have k' := k c F H2 own er Stp.refl rfl
    have lim := lim_eq
    cases d with
    | non => simp only [truth, Option.some.injEq] at hc; subst hc; rw [r1.non]; exact ⟨_, rfl, k'⟩
    | bl x => simp only [truth, Option.some.injEq] at hc; subst hc; rw [r1.bl]; exact ⟨_, rfl, k'⟩
    | int i => simp only [truth, Option.some.injEq] at hc; subst hc; rw [r1.int]; exact ⟨_, rfl, k'⟩
    | str s =>
      simp only [truth, Option.ite_none_right_eq_some, Option.some.injEq] at hc
      obtain ⟨hl, hc⟩ := hc
      subst hc
      rw [r1.str]
      refine ⟨_, ⟨by rw [mkS_len]; omega, ?_⟩, k'⟩
      rw [mkS_len]; cases s <;> rfl
    | lst xs =>
      simp only [truth, Option.some.injEq] at hc
      subst hc
      obtain ⟨p, vs, rfl, hp, rp⟩ := r1.lst
      have : xs.isEmpty = vs.isEmpty := by cases rp <;> rfl
      exact ⟨_, .inl ⟨vs, .inl hp, by rw [this]⟩, k'⟩
    | tup xs =>
      simp only [truth, Option.some.injEq] at hc
      subst hc
      obtain ⟨p, vs, rfl, hp, rp⟩ := r1.tup
      have : xs.isEmpty = vs.isEmpty := by cases rp <;> rfl
      exact ⟨_, .inr (.inl ⟨vs, hp, by rw [this]⟩), k'⟩
    | dic xs => simp [truth] at hc
    | klst xs => simp [truth] at hc
/-- a if t else b -/
theorem e_if {m1 m2 : Sem Cell} (hc : ET clsV W X c tA) (ha : EC clsV W X a m1) (hb : EC clsV W X b m2) : EC clsV W X (.IfExp c a b pos) (sIf tA m1 m2) :=
  PE.imp (pe_ifExp hc ha hb) fun σ H Q h => wp_if back_C h
/-- and, or, not as values, of truth values -/
theorem v_one {op} {m : Sem Cell} (h : EC clsV W X a m) : EC clsV W X (.BoolOp op [a] pos) m := pe_one h
theorem v_and {m1 m2 : Sem Cell} (ha : EC clsV W X a m1) (hb : EC clsV W X (.BoolOp .And (b :: rest) pos) m2) : EC clsV W X (.BoolOp .And (a :: b :: rest) pos) (sIf (bOf m1) m2 (sK (.bl false))) :=
  PE.imp (pe_and ha hb) fun σ H Q h => tG.mono (wp_if back_C h).bOf fun v H1 ⟨k, hv, q⟩ => by
    refine ⟨k, hv, ?_⟩
    cases k with
    | true => rw [if_pos rfl] at q ⊢; exact q
    | false =>
      rw [if_neg Bool.false_ne_true] at q ⊢
      obtain ⟨ρ, F, own, er, h⟩ := q
      exact h (.bl false) F H1 own er Stp.refl (.bl false)
theorem v_or {m1 m2 : Sem Cell} (ha : EC clsV W X a m1) (hb : EC clsV W X (.BoolOp .Or (b :: rest) pos) m2) : EC clsV W X (.BoolOp .Or (a :: b :: rest) pos) (sIf (bOf m1) (sK (.bl true)) m2) :=
  PE.imp (pe_or ha hb) fun σ H Q h => tG.mono (wp_if back_C h).bOf fun v H1 ⟨k, hv, q⟩ => by
    refine ⟨k, hv, ?_⟩
    cases k with
    | false => rw [if_neg Bool.false_ne_true] at q ⊢; exact q
    | true =>
      rw [if_pos rfl] at q ⊢
      obtain ⟨ρ, F, own, er, h⟩ := q
      exact h (.bl true) F H1 own er Stp.refl (.bl true)
theorem v_not {m1 : Sem Cell} (ha : EC clsV W X a m1) : EC clsV W X (.UnaryOp .Not a pos) (sBl (sNot (bOf m1))) :=
  PE.imp (pe_not ha) fun σ H Q h => by
    obtain ⟨ρ, F, own, er, h⟩ := h.sBl
    exact tG.bOf (tG.mono (wpS.bind (Rel1 := relE) back_E er h) fun b H1 ⟨k, ρ1, F1, own1, e1, s1, r1, h1⟩ => by
      cases r1
      exact h1 _ F1 H1 own1 e1 Stp.refl rfl)
/-- a comparison chained -/
theorem wp_chain {p1 p2 : COp} {r r' : R2} {σ : St} {H : Hp} {Q : Bool → Hp → Prop} (k1 : CkOk X r (cmpop p1)) (k2 : CkOk X r' (cmpop p2)) {Q' : VK} (hQ : ∀ k H', Q k H' → Q' (.bl k) H') (h : tG clsV X.K W relE (sChain p1 p2 ma mb mc) σ H Q) :
    tChain r r' (tG clsV X.K W (relO X.K) ma) (tG clsV X.K W (relO X.K) mb) (tG clsV X.K W (relO X.K) mc) σ H Q' := by
  obtain ⟨ρ, F, own, er, h⟩ := h
  refine tG.mono (wpS.bind (Rel1 := relO X.K) back_E er h) fun x H1 ⟨o1, ρ1, F1, own1, e1, s1, r1, h1⟩ => ?_
  refine tG.mono (wpS.bind (Rel1 := relO X.K) back_E e1 h1) fun y H2 ⟨o2, ρ2, F2, own2, e2, s2, r2, h2⟩ => ?_
  obtain ⟨d, rd, h3⟩ := wpS.rdO e2 (r1.step (H2 := H) s2) h2
  obtain ⟨d2, rd2, h4⟩ := wpS.rdO e2 r2 h3
  obtain ⟨k, hk, h5⟩ := wpS.optB h4
  refine k1 F2 H2 own2 ρ2 σ _ x y d d2 k e2 rd rd2 hk fun H3 F3 own3 e3 s3 => ⟨k, rfl, ?_⟩
  cases k with
  | false =>
    rw [if_neg Bool.false_ne_true]
    exact hQ _ _ (h5 false F3 H3 own3 e3 s3 rfl)
  | true =>
    rw [if_pos rfl]
    have h6 : wpS clsV X.K W relE (bind' mc fun z => bind' (rdO o2) fun e' => bind' (rdO z) fun f => opt (cmpop p2 e' f)) ρ2 F3 own3 σ H3 Q := by
      have h5' : wpS clsV X.K W relE (bind' mc fun z => bind' (rdO o2) fun e' => bind' (rdO z) fun f => opt (cmpop p2 e' f)) ρ2 F2 own2 σ H2 Q := h5
      unfold wpS at h5' ⊢
      cases em : (bind' mc fun z => bind' (rdO o2) fun e' => bind' (rdO z) fun f => opt (cmpop p2 e' f)) ρ2 with
      | ok a ρ' => rw [em] at h5'; exact fun b F' H' own' e' s' r' => h5' b F' H' own' e' (s3.trans s') r'
      | exc x ρ' => rw [em] at h5'; exact fun c d F' H' own' e' s' r' => h5' c d F' H' own' e' (s3.trans s') r'
      | bad => rw [em] at h5'; exact h5'
    refine tG.mono (wpS.bind (Rel1 := relO X.K) back_E e3 h6) fun z H4 ⟨o4, ρ4, F4, own4, e4, s4, r4, h7⟩ => ?_
    obtain ⟨d5, rd5, h8⟩ := wpS.rdO e4 ((r2.step (H2 := H) s3).step (H2 := H) s4) h7
    obtain ⟨d6, rd6, h9⟩ := wpS.rdO e4 r4 h8
    obtain ⟨k', hk', q⟩ := wpS.opt h9
    exact k2 F4 H4 own4 ρ4 σ _ y z d5 d6 k' e4 rd5 rd6 hk' fun H5 F5 own5 e5 s5 => hQ _ _ (q k' F5 H5 own5 e5 s5 rfl)
theorem t_chain {p1 p2 : COp} {op op' : CmpOp} {r r' : R2} (ho : OpR X (compareOp op) r) (ho' : OpR X (compareOp op') r') (k1 : CkOk X r (cmpop p1)) (k2 : CkOk X r' (cmpop p2)) (ha : EO clsV W X a ma) (hb : EO clsV W X b mb) (hc : EO clsV W X c mc)
    (hm : lastMarks [op, op'] [b, c] = false := by with_unfolding_all rfl) : ET clsV W X (.Compare a [op, op'] [b, c] pos) (sChain p1 p2 ma mb mc) :=
  PT.imp (pt_chain ho ho' ha hb hc hm) fun σ H Q h => wp_chain k1 k2 (fun k H' q => ⟨k, rfl, q⟩) h
theorem e_chain {p1 p2 : COp} {op op' : CmpOp} {r r' : R2} (ho : OpR X (compareOp op) r) (ho' : OpR X (compareOp op') r') (k1 : CkOk X r (cmpop p1)) (k2 : CkOk X r' (cmpop p2)) (ha : EO clsV W X a ma) (hb : EO clsV W X b mb) (hc : EO clsV W X c mc)
    (hm : lastMarks [op, op'] [b, c] = false := by with_unfolding_all rfl) : EC clsV W X (.Compare a [op, op'] [b, c] pos) (sBl (sChain p1 p2 ma mb mc)) :=
  PE.imp (pe_chain ho ho' ha hb hc hm) fun σ H Q h => wp_chain k1 k2 (fun k H' q => q) h.sBl
/-! ### subscripts -/
/-- a dict's item, by values -/
def rIxG (K : PySem.W.Frag) : R2 := fun x y H Q => ∃ a v, x = .ref a ∧ DG K H a y (some v) ∧ Q v H
theorem ix_dict (hu : X.A.units + 1 < cLine) : IxR X (rIxG X.K) := by
  intro value slice pins s σ H x y v u Q I rx ry h hs
  obtain ⟨a, z, rfl, g, q⟩ := h
  cases rx
  have hT : s.TypeIs (.ref a) "dict" := by
    rcases g with ⟨kvs, k, e, _, _⟩ | ⟨kvs, k, b, e, _, _, _⟩ | ⟨_, _, _, _, _, z⟩ | ⟨_, _, _, z⟩
    · obtain ⟨_, _, vs, _, dd⟩ := dk_rd I.hok e
      exact dd.typeIs
    · obtain ⟨_, _, xs, _, dd⟩ := dt_rd I.hok e
      exact dd.typeIs
    · cases z
    · cases z
  unfold subscriptTail
  refine wpAny_bind ?_
  rw [getitemInPython_of_ne hT.not_modules]
  refine wpAny_bind (wpAny_specialOf hT PySem.F.slot_dict_getitem.lookup ?_)
  have fin : wpAny (model X.prog X.w) X.A (subscripted slice false (.ref a) u) (fun r s₃ => wpAny (model X.prog X.w) X.A (letTemporaryGo value (.ref a) r >>= fun _ => pure r) (EP X pins σ Q) X.xe s₃) X.xe s := by
    rw [hs]
    exact wpAny_operating (dg_getItem hu I g ry fun w' s3 I3 rw' => wpAny_bind (wpAny_letTemporaryGo (wpAny_pure ⟨z, H, I3, rw', q⟩)))
  first
    | exact wpAny_pure (wpAny_bind fin)
    | exact wpAny_bind (wpAny_pure (wpAny_bind fin))
    | exact wpAny_bind fin
theorem index_k {K : PySem.W.Frag} {F : Addr → Prop} {H : Hp} {own : Ow} {ρ : Env} {σ : St} {Q : VK} {v w : V} {d e : D} {c : D} (er : ER K F H own ρ σ) (r1 : RdR K F H v d) (r2 : RdR K F H w e) (hf : index d e = some c) (k : EndC K F H own ρ σ Q (.fr c)) :
    rIx K v w H Q ∨ rIxG K v w H Q := by
  have lim := lim_eq
  cases d with
  | lst xs =>
    cases e <;> simp only [index, reduceCtorEq] at hf
    obtain ⟨a, vs, rfl, ha, ra⟩ := r1.lst
    rw [r2.int]
    unfold atI at hf
    cases hi : ixN xs.length _ with
    | none => rw [hi] at hf; cases hf
    | some j =>
      rw [hi] at hf
      obtain ⟨u, hu, ru⟩ := ra.get (i := j) (d := c) hf
      refine .inl (.inl ⟨a, vs, _, u, rfl, rfl, .inl ha, ?_, k.same er ru⟩)
      unfold L2.atI
      rw [ra.length]
      show (ixN xs.length _).bind _ = _
      rw [hi]; exact hu
  | tup xs =>
    cases e <;> simp only [index, reduceCtorEq] at hf
    obtain ⟨a, vs, rfl, ha, ra⟩ := r1.tup
    rw [r2.int]
    unfold atI at hf
    cases hi : ixN xs.length _ with
    | none => rw [hi] at hf; cases hf
    | some j =>
      rw [hi] at hf
      obtain ⟨u, hu, ru⟩ := ra.get (i := j) (d := c) hf
      refine .inl (.inr (.inl ⟨a, vs, _, u, rfl, rfl, ha, ?_, k.same er ru⟩))
      unfold L2.atI
      rw [ra.length]
      show (ixN xs.length _).bind _ = _
      rw [hi]; exact hu
  | str s =>
    cases e <;> simp only [index, reduceCtorEq, Option.ite_none_right_eq_some, Option.map_eq_some_iff] at hf
    obtain ⟨hl, x, hx, rfl⟩ := hf
    rw [r1.str, r2.int]
    refine .inl (.inr (.inr ⟨mkS s, _, x, rfl, rfl, by rw [mkS_len]; omega, ?_, k.same er (.str [x])⟩))
    exact hx
  | dic kvs =>
    have hf' : (if askable kvs e then dget kvs e else none) = some c := by simpa [index] using hf
    simp only [Option.ite_none_right_eq_some] at hf'
    obtain ⟨ok, hg⟩ := hf'
    obtain ⟨a, ps, rfl, dv, rp⟩ := r1.dic
    obtain ⟨o, g, ro⟩ := dg_of dv rp r2 ok
    rw [hg] at ro
    obtain ⟨u, rfl, ru⟩ := ro.some_of
    exact .inr ⟨a, u, rfl, g, k.same er ru⟩
  | klst xs =>
    cases e <;> simp only [index, reduceCtorEq, atI, Option.bind_eq_some_iff] at hf
    obtain ⟨j, hi, hf⟩ := hf
    obtain ⟨a, vs, rfl, ha, ra⟩ := r1.klst
    rw [r2.int]
    obtain ⟨u, hu, ru⟩ := ra.get (i := j) (d := c) hf
    refine .inl (.inl ⟨a, vs, _, u, rfl, rfl, ha, ?_, k.same er ru⟩)
    unfold L2.atI
    rw [ra.length]
    show (ixN xs.length _).bind _ = _
    rw [hi]; exact hu
  | _ => simp [index] at hf
theorem e_idx (hu : X.A.units + 64 < cLine) (ha : EO clsV W X a ma) (hb : EO clsV W X b mb) (hs : PlainIx b := by intro _ _; rfl) : EC clsV W X (.Subscript a b pos) (sIdx ma mb) :=
  PE.imp (pe_ix (ix_seq.or (ix_dict (by omega))) ha hb hs) fun σ H Q h => wp_s2 (r := fun x y H2 => rIx X.K x y H2 Q ∨ rIxG X.K x y H2 Q) back_C (fun _ _ q => q) (fun _ _ q => q) h fun F H2 own ρ v w d e c er r1 r2 hc k => by
    cases hi : index d e with
    | none => rw [hi] at hc; cases hc
    | some y => rw [hi] at hc; cases hc; exact index_k er r1 r2 hi k

/-! ### slices -/
theorem o_none : PO X none (tG clsV X.K W relE sNoPart) := ⟨fun pins s σ H Q I ⟨ρ, F, own, er, h⟩ => po_none.run pins s σ H Q I (h none F H own er Stp.refl rfl)⟩
theorem o_some (h : EO clsV W X e ma) : PO X (some e) (tG clsV X.K W relE (sPart ma)) := ⟨fun pins s σ H Q I q =>
  (po_some h).run pins s σ H Q I (wp_s1 (r := fun x H1 => ∃ i, x = .int i ∧ Q (some i) H1) back_E (fun _ _ q => q) q fun F H2 own ρ v d c er r1 hc k => by
    cases d <;> simp only [Option.some.injEq, reduceCtorEq] at hc
    subst hc
    exact ⟨_, r1.int, k _ F H2 own er Stp.refl rfl⟩)⟩
def rSlL : V → Option Int → Option Int → Hp → VK → Prop := fun x lo hi H Q => ∃ a xs, x = .ref a ∧ Rd H a (.lst xs) ∧ ∀ p, H p = none → Q (.ref p) (upd H p (.lst (cutV xs lo hi)))
def rSlAny (K : PySem.W.Frag) : V → Option Int → Option Int → Hp → VK → Prop := fun x lo hi H Q => (L2.rSlL K x lo hi H Q ∨ rSlA K x lo hi H Q) ∨ rSlS x lo hi H Q
theorem rSlAny_ok : SlR X (rSlAny X.K) := (sl_list.or sl_tupA).or sl_str
theorem RepL.cut {K : PySem.W.Frag} {F : Addr → Prop} {H : Hp} {vs : List V} {ds : List D} (r : RepL K F H vs ds) (lo hi : Option Int) : RepL K F H (cutV vs lo hi) (DL.cut ds lo hi) := by
  unfold cutV DL.cut
  rw [r.length]
  exact (r.drop _).take _
theorem cut_whole {α : Type} {xs : List α} {lo hi : Option Int} (h : HT.sIx xs.length 0 lo = 0 ∧ HT.sIx xs.length xs.length hi = xs.length) : DL.cut xs lo hi = xs := by
  have h1 : sIx xs.length 0 lo = 0 := h.1
  have h2 : sIx xs.length xs.length hi = xs.length := h.2
  unfold DL.cut
  rw [h1, h2]
  simp
theorem slice_k {K : PySem.W.Frag} {F : Addr → Prop} {H : Hp} {own : Ow} {ρ : Env} {σ : St} {Q : VK} {v : V} {d : D} {lo hi : Option Int} {c : Cell} (er : ER K F H own ρ σ) (r1 : RdR K F H v d) (hf : slice d lo hi = some c) (k : EndC K F H own ρ σ Q c) : rSlAny K v lo hi H Q := by
  have lim := lim_eq
  cases d with
  | lst xs =>
    simp only [slice, Option.some.injEq] at hf
    subst hf
    obtain ⟨a, vs, rfl, ha, ra⟩ := r1.lst
    exact .inl (.inl ⟨a, vs, rfl, .inl ha, k.lst er (ra.cut lo hi)⟩)
  | klst xs =>
    simp only [slice, Option.some.injEq] at hf
    subst hf
    obtain ⟨a, vs, rfl, ha, ra⟩ := r1.klst
    exact .inl (.inl ⟨a, vs, rfl, ha, k.lst er (ra.cut lo hi)⟩)
  | tup xs =>
    simp only [slice, Option.some.injEq] at hf
    subst hf
    obtain ⟨a, vs, rfl, ha, ra⟩ := r1.tup
    refine .inl (.inr ⟨a, vs, rfl, ha, fun z => ?_, fun _ => k.tup er (ra.cut lo hi)⟩)
    rw [ra.length] at z
    rw [cut_whole z] at k
    rcases r1 with r1 | ⟨_, _, o⟩
    · exact k.same er r1
    · cases o
  | str s =>
    simp only [slice, Option.ite_none_right_eq_some, Option.some.injEq] at hf
    obtain ⟨hl, rfl⟩ := hf
    rw [r1.str]
    refine .inr ⟨mkS s, rfl, by rw [mkS_len]; omega, ?_⟩
    have : cutS (mkS s) lo hi = mkS (DL.cut s lo hi) := by
      unfold cutS DL.cut
      rw [mkS_len]
      rfl
    rw [this]
    exact k.same er (.str _)
  | _ => simp [slice] at hf
theorem e_slc {lo hi : Option Expr} {ml mh : Sem (Option Int)} {p2 : Pos} (ha : EO clsV W X a ma) (hl : PO X lo (tG clsV X.K W relE ml)) (hh : PO X hi (tG clsV X.K W relE mh)) : EC clsV W X (.Subscript a (.Slice lo hi none p2) pos) (sSl ma ml mh) :=
  PE.imp (pe_slice rSlAny_ok ha hl hh) fun σ H Q ⟨ρ, F, own, er, h⟩ => by
    refine tG.mono (wpS.bind (Rel1 := relO X.K) back_C er h) fun x H1 ⟨o1, ρ1, F1, own1, e1, s1, r1, h1⟩ => ?_
    refine tG.mono (wpS.bind (Rel1 := relE) back_C e1 h1) fun l H2 ⟨lo', ρ2, F2, own2, e2, s2, r2, h2⟩ => ?_
    refine tG.mono (wpS.bind (Rel1 := relE) back_C e2 h2) fun u H3 ⟨hi', ρ3, F3, own3, e3, s3, r3, h3⟩ => ?_
    cases r2
    cases r3
    obtain ⟨d, rd, h4⟩ := wpS.rdO e3 ((r1.step (H2 := H) s2).step (H2 := H) s3) h3
    obtain ⟨c, hc, k⟩ := wpS.opt h4
    exact slice_k e3 rd hc k

/-! ### lists of expressions, displays -/
theorem l_nil : EL clsV W X [] sNil := PA.imp pa_nil fun σ H Q ⟨ρ, F, own, er, h⟩ => h [] F H own er Stp.refl .nil
theorem l_cons {m : Sem D} {ms : Sem (List D)} (ha : ED clsV W X e m) (hr : EL clsV W X es ms) (hs : starEach (e :: es) X.env = (false, eval e X.env) :: starEach es X.env := by rfl) : EL clsV W X (e :: es) (sCons m ms) :=
  PA.imp (pa_cons ha hr hs) fun σ H Q ⟨ρ, F, own, er, h⟩ => by
    refine tG.mono (wpS.bind (Rel1 := relD X.K) back_L er h) fun x H1 ⟨d, ρ1, F1, own1, e1, s1, r1, h1⟩ => ?_
    refine tG.mono (wpS.bind (Rel1 := relL X.K) back_L e1 h1) fun y H2 ⟨ds, ρ2, F2, own2, e2, s2, r2, h2⟩ => ?_
    exact h2 _ F2 H2 own2 e2 Stp.refl (.cons (r1.step s2) r2)
theorem os_nil : EOs clsV W X [] oNil := PA.imp pa_nil fun σ H Q ⟨ρ, F, own, er, h⟩ => h [] F H own er Stp.refl .nil
theorem os_cons {m : Sem Opd} {ms : Sem (List Opd)} (ha : EO clsV W X e m) (hr : EOs clsV W X es ms) (hs : starEach (e :: es) X.env = (false, eval e X.env) :: starEach es X.env := by rfl) : EOs clsV W X (e :: es) (oCons m ms) :=
  PA.imp (pa_cons ha hr hs) fun σ H Q ⟨ρ, F, own, er, h⟩ => by
    refine tG.mono (wpS.bind (Rel1 := relO X.K) back_Os er h) fun x H1 ⟨d, ρ1, F1, own1, e1, s1, r1, h1⟩ => ?_
    refine tG.mono (wpS.bind (Rel1 := relOs X.K) back_Os e1 h1) fun y H2 ⟨ds, ρ2, F2, own2, e2, s2, r2, h2⟩ => ?_
    refine h2 _ F2 H2 own2 e2 Stp.refl (.cons ?_ r2)
    have q := r1.step (H2 := H) s2
    cases d <;> exact q
theorem e_tup {x1} {ms : Sem (List D)} (h : EL clsV W X es ms) : EC clsV W X (.Tuple es x1 pos) (sTup ms) :=
  PE.imp (pe_tup h) fun σ H Q ⟨ρ, F, own, er, h⟩ => by
    refine tG.mono (wpS.bind (Rel1 := relL X.K) back_C er h) fun vs H1 ⟨ds, ρ1, F1, own1, e1, s1, r1, h1⟩ => ?_
    obtain ⟨c, hc, k⟩ := wpS.opt h1
    simp only [Option.ite_none_right_eq_some, Option.some.injEq] at hc
    obtain ⟨hl, rfl⟩ := hc
    have r1' : RepL X.K F1 H1 vs ds := r1
    exact ⟨by rw [r1'.length, ← lim_eq]; exact hl, EndC.tup k e1 r1'⟩
theorem e_lst {ms : Sem (List D)} (h : EL clsV W X es ms) : EC clsV W X (.List es pos) (sLst ms) :=
  PE.imp (pe_lst h) fun σ H Q ⟨ρ, F, own, er, h⟩ => by
    refine tG.mono (wpS.bind (Rel1 := relL X.K) back_C er h) fun vs H1 ⟨ds, ρ1, F1, own1, e1, s1, r1, h1⟩ => ?_
    obtain ⟨c, hc, k⟩ := wpS.opt h1
    simp only [Option.ite_none_right_eq_some, Option.some.injEq] at hc
    obtain ⟨hl, rfl⟩ := hc
    have r1' : RepL X.K F1 H1 vs ds := r1
    exact ⟨by rw [r1'.length, ← lim_eq]; exact hl, EndC.lst k e1 r1'⟩
end
end DL
/-! DL over the model, 5: built-ins, changes of own objects, calls of defs. -/
namespace DL
open PySem PySem.Spec PyProof.Rows L2
section
variable {K : PySem.W.Frag} {F : Addr → Prop} {H : Hp} {own : Ow} {ρ : Env} {σ : St}
inductive RdRs (K : PySem.W.Frag) (F : Addr → Prop) (H : Hp) : List V → List D → Prop
  | nil : RdRs K F H [] []
  | cons {v vs d ds} : RdR K F H v d → RdRs K F H vs ds → RdRs K F H (v :: vs) (d :: ds)
theorem getOs_rd (e : ER K F H own ρ σ) : ∀ {os : List Opd} {ds : List D} {vs : List V}, OpdsR K F H σ vs os → getOs ρ os = some ds → RdRs K F H vs ds
  | [], _, _, .nil, h => by cases h; exact .nil
  | o :: os, ds, _, .cons (v := v) a t, h => by
    unfold getOs at h
    cases h1 : getO ρ o with
    | none => rw [h1] at h; cases h
    | some d =>
      cases h2 : getOs ρ os with
      | none => rw [h1, h2] at h; cases h
      | some ds' =>
        rw [h1, h2] at h
        cases h
        refine .cons ?_ (getOs_rd e t h2)
        cases o with
        | val d' => cases h1; exact .inl a
        | slot i =>
          obtain ⟨v', hv, q⟩ := e.rd (i := i) h1
          have a' : σ[i]? = some (some v) := a
          rw [hv] at a'
          cases a'
          exact q
theorem RepL.dints : ∀ {vs : List V} {ds : List D} {ns : List Int}, RepL K F H vs ds → DL.dints ds = some ns → vs = ns.map V.int
  | _, _, ns, .nil, h => by cases h; rfl
  | _, _, ns, .cons a t, h => by
    cases a <;> simp only [DL.dints, reduceCtorEq, Option.map_eq_some_iff] at h
    obtain ⟨ms, h1, rfl⟩ := h
    rw [RepL.dints t h1]; rfl
theorem RepL.bools : ∀ {vs : List V} {ds : List D} {ns : List Bool}, RepL K F H vs ds → DL.bools ds = some ns → vs = ns.map V.bl
  | _, _, ns, .nil, h => by cases h; rfl
  | _, _, ns, .cons a t, h => by
    cases a <;> simp only [DL.bools, reduceCtorEq, Option.map_eq_some_iff] at h
    obtain ⟨ms, h1, rfl⟩ := h
    rw [RepL.bools t h1]; rfl
end
section
variable {clsV : Nat → Value} {X : Cx} {W : WX} {a b c e : Expr} {es : List Expr} {pos : Pos} {ma mb mc : Sem Opd}
/-- a built-in's rule answers wherever f does -/
def BkOk (X : Cx) (r : List V → Hp → VK → Prop) (f : List D → Option Cell) : Prop := ∀ (F : Addr → Prop) (H : Hp) (own : Ow) (ρ : Env) (σ : St) (Q : VK) (vs : List V) (ds : List D) (c : Cell),
  ER X.K F H own ρ σ → RdRs X.K F H vs ds → f ds = some c → EndC X.K F H own ρ σ Q c → r vs H Q
theorem wpS.rdOs {γ δ : Type} {K : PySem.W.Frag} {F : Addr → Prop} {H : Hp} {own : Ow} {ρ : Env} {σ : St} {Rel : RelT γ δ} {f : List D → Sem γ} {Q : δ → Hp → Prop} {os : List Opd} {vs : List V} (e : ER K F H own ρ σ) (r : OpdsR K F H σ vs os) (h : wpS clsV K W Rel (bind' (DL.rdOs os) f) ρ F own σ H Q) :
    ∃ ds, RdRs K F H vs ds ∧ wpS clsV K W Rel (f ds) ρ F own σ H Q := by
  unfold wpS bind' DL.rdOs at h
  cases eo : getOs ρ os with
  | none => rw [eo] at h; exact h.elim
  | some ds => rw [eo] at h; exact ⟨ds, getOs_rd e r eo, h⟩
theorem wp_sB {t : TA} {r : List V → Hp → VK → Prop} {f : List D → Option Cell} {m : Sem (List Opd)} {σ : St} {H : Hp} {Q : VK} (hk : BkOk X r f) (ht : ∀ H Q, tG clsV X.K W (relOs X.K) m σ H Q → t σ H Q) (h : tG clsV X.K W (relC X.K) (sB f m) σ H Q) : tCB r t σ H Q := by
  obtain ⟨ρ, F, own, er, h⟩ := h
  refine ht _ _ (tG.mono (wpS.bind (Rel1 := relOs X.K) back_C er h) fun vs H1 ⟨os, ρ1, F1, own1, e1, s1, r1, h1⟩ => ?_)
  obtain ⟨ds, rd, h2⟩ := wpS.rdOs e1 r1 h1
  obtain ⟨c, hc, k⟩ := wpS.opt h2
  exact hk F1 H1 own1 ρ1 σ Q vs ds c e1 rd hc k
section
variable {x : Str} {p : Pos} {id T : String} {m : Sem (List Opd)} {r : List V → Hp → VK → Prop} {f : List D → Option Cell}
theorem e_blt (hc : CallR X (.builtin id) r) (hk : BkOk X r f) (hg : Gl X x) (hm : X.mg x = none) (hv : bootBuiltins x = some (.builtin id)) (ha : EOs clsV W X (e :: es) m) (hn : x ≠ "__name__" := by decide) (hdb : (x == ("__debug__" : Str)) = false := by decide)
    (he : starEach (e :: es) X.env = (false, eval e X.env) :: starEach es X.env := by rfl) (hpl : (backTo pos (starEach es X.env)).any (·.1) = false := by rfl) : EC clsV W X (.Call (.Name x p) (e :: es) [] pos) (sB f m) :=
  PE.imp (pe_callB hc hg hm hv ha hn hdb he hpl) fun σ H Q h => wp_sB hk (fun _ _ q => q) h
theorem e_bty (hc : CallR X (.type T) r) (hk : BkOk X r f) (hg : Gl X x) (hm : X.mg x = none) (hv : bootBuiltins x = some (.type T)) (ha : EOs clsV W X (e :: es) m) (hn : x ≠ "__name__" := by decide) (hdb : (x == ("__debug__" : Str)) = false := by decide)
    (he : starEach (e :: es) X.env = (false, eval e X.env) :: starEach es X.env := by rfl) (hpl : (backTo pos (starEach es X.env)).any (·.1) = false := by rfl) : EC clsV W X (.Call (.Name x p) (e :: es) [] pos) (sB f m) :=
  PE.imp (pe_callTy hc hg hm hv ha hn hdb he hpl) fun σ H Q h => wp_sB hk (fun _ _ q => q) h
end
def lenR (K : PySem.W.Frag) : List V → Hp → VK → Prop := fun xs H Q => ((∃ p ys, xs = [.ref p] ∧ (SqL K H p ys ∨ SqT K H p ys) ∧ Q (.int ys.length) H) ∨ (∃ z, xs = [.str z] ∧ z.length ≤ sizeLine ∧ Q (.int z.length) H)) ∨
  (∃ p kvs, xs = [.ref p] ∧ Rd H p (.dK kvs) ∧ Q (.int kvs.length) H) ∨ (∃ p kvs, xs = [.ref p] ∧ Rd H p (.dT kvs) ∧ Q (.int ((kvs.length : Nat) : Int)) H)
theorem call_lenK : CallR X (.builtin "len") (fun xs H Q => ∃ p kvs, xs = [.ref p] ∧ Rd H p (.dK kvs) ∧ Q (.int kvs.length) H) := by
  intro pins s σ H xs us Q I r h
  obtain ⟨a, kvs, rfl, ha, q⟩ := h
  obtain ⟨u, rfl, ru⟩ := vals1 r
  cases ru
  exact d_len I ha fun t s' I' => ⟨.int kvs.length, H, I', ⟨t, rfl⟩, q⟩
theorem call_lenT : CallR X (.builtin "len") (fun xs H Q => ∃ p kvs, xs = [.ref p] ∧ Rd H p (.dT kvs) ∧ Q (.int ((kvs.length : Nat) : Int)) H) := by
  intro pins s σ H xs us Q I r h
  obtain ⟨p, kvs, rfl, hp, q⟩ := h
  obtain ⟨u, rfl, rx⟩ := vals1 r
  obtain rfl : u = .ref p := rx
  obtain ⟨z, hd, ys, rel, dd⟩ := dt_rd I.hok hp
  have hl : kvs.length = ys.length := Paired.length rel
  refine call_len_dictH hd dd (by rw [← hl]; rw [sizeLine_eq] at z; omega) ?_
  rw [← hl]
  exact ⟨.int ((kvs.length : Nat) : Int), H, I.tok _, ⟨_, rfl⟩, q⟩
theorem lenR_ok : CallR X (.builtin "len") (lenR X.K) := (call_len_seq.or call_len_str).or (call_lenK.or call_lenT)
theorem len_k : BkOk X (lenR X.K) bLen := by
  intro F H own ρ σ Q vs ds c er rd hf k
  have lim := lim_eq
  match ds, rd, hf with
  | [.lst xs], .cons r .nil, hf =>
    cases hf
    obtain ⟨a, vs, rfl, ha, ra⟩ := r.lst
    exact .inl (.inl ⟨a, vs, rfl, .inl (.inl ha), by rw [ra.length]; exact k.same er (.int _)⟩)
  | [.klst xs], .cons r .nil, hf =>
    cases hf
    obtain ⟨a, vs, rfl, ha, ra⟩ := r.klst
    exact .inl (.inl ⟨a, vs, rfl, .inl ha, by rw [ra.length]; exact k.same er (.int _)⟩)
  | [.tup xs], .cons r .nil, hf =>
    cases hf
    obtain ⟨a, vs, rfl, ha, ra⟩ := r.tup
    exact .inl (.inl ⟨a, vs, rfl, .inr ha, by rw [ra.length]; exact k.same er (.int _)⟩)
  | [.str xs], .cons r .nil, hf =>
    simp only [bLen, Option.ite_none_right_eq_some, Option.some.injEq] at hf
    obtain ⟨hl, rfl⟩ := hf
    rw [r.str]
    exact .inl (.inr ⟨_, rfl, by rw [mkS_len]; omega, by rw [mkS_len]; exact k.same er (.int _)⟩)
  | [.dic xs], .cons r .nil, hf =>
    cases hf
    obtain ⟨a, ps, rfl, dv, rp⟩ := r.dic
    have hl := rp.length
    cases dv with
    | k h => rw [List.length_map] at hl; exact .inr (.inl ⟨a, _, rfl, h, by rw [hl]; exact k.same er (.int _)⟩)
    | t h => rw [List.length_map] at hl; exact .inr (.inr ⟨a, _, rfl, h, by rw [hl]; exact k.same er (.int _)⟩)
theorem abs_k : BkOk X (fun xs H Q => ∃ i, xs = [.int i] ∧ Q (.int (if i < 0 then -i else i)) H) bAbs := by
  intro F H own ρ σ Q vs ds c er rd hf k
  match ds, rd, hf with
  | [.int i], .cons r .nil, hf => cases hf; rw [r.int]; exact ⟨i, rfl, k.same er (.int _)⟩
theorem int_k : BkOk X (fun xs H Q => (∃ i, xs = [.int i] ∧ Q (.int i) H) ∨ ∃ k, xs = [.bl k] ∧ Q (.int (if k then 1 else 0)) H) bInt := by
  intro F H own ρ σ Q vs ds c er rd hf k
  match ds, rd, hf with
  | [.int i], .cons r .nil, hf => cases hf; rw [r.int]; exact .inl ⟨i, rfl, k.same er (.int _)⟩
  | [.bl i], .cons r .nil, hf => cases hf; rw [r.bl]; exact .inr ⟨i, rfl, k.same er (.int _)⟩
theorem vals_at : ∀ {xs : List V} {us : List Value}, xs.length = us.length → (∀ (j : Nat) (x : V) (u : Value), xs[j]? = some x → us[j]? = some u → RelV x u) → Vals xs us
  | [], [], _, _ => .nil
  | [], _ :: _, h, _ => by cases h
  | _ :: _, [], h, _ => by cases h
  | x :: xs, u :: us, h, k => .cons (k 0 x u rfl rfl) (vals_at (by simpa using h) fun j y w h1 h2 => k (j + 1) y w (by simpa using h1) (by simpa using h2))
theorem call_listText (hc : X.calm = true) : CallR X (.type "list") (fun xs H Q => ∃ x : Str, xs = [.str x] ∧ x.length ≤ sizeLine ∧ ∀ l, H l = none → Q (.ref l) (upd H l (.lst (x.cps.toList.map fun c => V.str ⟨#[c]⟩)))) := by
  intro pins s σ H xs us Q I r h
  obtain ⟨x, rfl, hz, q⟩ := h
  obtain ⟨u, rfl, t, rfl⟩ := vals1 r
  refine call_list_str (I.ok.hd hc) x t (fun h' tk acc' c' kp e it => ?_) hz
  obtain ⟨hs, hi⟩ := it
  have hv : Vals (x.cps.toList.map fun c => V.str ⟨#[c]⟩) acc'.toList := vals_at (by rw [List.length_map, Array.length_toList, Array.length_toList]; exact hs.symm) fun j y w h1 h2 => by
    have h2' : acc'[j]? = some w := by rw [← Array.getElem?_toList]; exact h2
    obtain ⟨c, u, hc, rfl⟩ := hi j w h2'
    rw [List.getElem?_map, Array.getElem?_toList, hc] at h1
    cases h1
    exact ⟨u, rfl⟩
  refine ⟨.ref s.heap.objs.size, _, I.laid (t' := tk) kp (Nat.le_refl _) (show ObjOk X.prog X.w _ h' _ (.lst _) from ⟨?_, acc'.toList, c', hv, by simpa using e⟩), rfl, q _ (I.hok.fresh (Nat.le_refl _))⟩
  rw [List.length_map, Array.length_toList]; exact hz
theorem repL_text {K : PySem.W.Frag} {F : Addr → Prop} {H : Hp} : ∀ {s : List Nat}, RepL K F H (s.map fun c => V.str ⟨#[c]⟩) (s.map fun c => D.str [c])
  | [] => .nil
  | c :: s => .cons (.str [c]) repL_text
theorem list_k : BkOk X (fun xs H Q => (∃ p ys, xs = [.ref p] ∧ (SqL X.K H p ys ∨ SqT X.K H p ys) ∧ ∀ l, H l = none → Q (.ref l) (upd H l (.lst ys))) ∨ ∃ x : Str, xs = [.str x] ∧ x.length ≤ sizeLine ∧ ∀ l, H l = none → Q (.ref l) (upd H l (.lst (x.cps.toList.map fun c => V.str ⟨#[c]⟩)))) bList := by
  intro F H own ρ σ Q vs ds c er rd hf k
  have lim := lim_eq
  match ds, rd, hf with
  | [.lst xs], .cons r .nil, hf => cases hf; obtain ⟨a, vs, rfl, ha, ra⟩ := r.lst; exact .inl ⟨a, vs, rfl, .inl (.inl ha), k.lst er ra⟩
  | [.tup xs], .cons r .nil, hf => cases hf; obtain ⟨a, vs, rfl, ha, ra⟩ := r.tup; exact .inl ⟨a, vs, rfl, .inr ha, k.lst er ra⟩
  | [.str s], .cons r .nil, hf =>
    simp only [bList, Option.ite_none_right_eq_some, Option.some.injEq] at hf
    obtain ⟨hl, rfl⟩ := hf
    rw [r.str]
    exact .inr ⟨_, rfl, by rw [mkS_len]; omega, k.lst er repL_text⟩
theorem tuple_k : BkOk X (fun xs H Q => ∃ p ys, xs = [.ref p] ∧ ((SqL X.K H p ys ∧ ∀ l, H l = none → Q (.ref l) (upd H l (.tup ys))) ∨ (SqT X.K H p ys ∧ Q (.ref p) H))) bTuple := by
  intro F H own ρ σ Q vs ds c er rd hf k
  match ds, rd, hf with
  | [.lst xs], .cons r .nil, hf => cases hf; obtain ⟨a, vs, rfl, ha, ra⟩ := r.lst; exact ⟨a, vs, rfl, .inl ⟨.inl ha, k.tup er ra⟩⟩
  | [.tup xs], .cons (v := v) r .nil, hf =>
    cases hf
    have r' : RepD X.K F H v (.tup xs) := by
      rcases r with r | ⟨_, _, o⟩
      · exact r
      · cases o
    obtain ⟨a, vs, rfl, ha, ra⟩ := r.tup
    exact ⟨a, vs, rfl, .inr ⟨ha, k.same er r'⟩⟩
theorem sum_k : BkOk X (rSum X.K) bSum := by
  intro F H own ρ σ Q vs ds c er rd hf k
  match ds, rd, hf with
  | [.lst xs], .cons r .nil, hf =>
    simp only [bSum, Option.map_eq_some_iff] at hf
    obtain ⟨ns, hn, rfl⟩ := hf
    obtain ⟨a, vs, rfl, ha, ra⟩ := r.lst
    exact ⟨a, ns, rfl, .inl (by rw [← ra.dints hn]; exact ha), k.same er (.int _)⟩
theorem all_k : BkOk X (rAll X.K) bAll := by
  intro F H own ρ σ Q vs ds c er rd hf k
  match ds, rd, hf with
  | [.lst xs], .cons r .nil, hf =>
    simp only [bAll, Option.map_eq_some_iff] at hf
    obtain ⟨ns, hn, rfl⟩ := hf
    obtain ⟨a, vs, rfl, ha, ra⟩ := r.lst
    exact ⟨a, ns, rfl, .inl (by rw [← ra.bools hn]; exact ha), k.same er (.bl _)⟩
theorem any_k : BkOk X (rAny X.K) bAny := by
  intro F H own ρ σ Q vs ds c er rd hf k
  match ds, rd, hf with
  | [.lst xs], .cons r .nil, hf =>
    simp only [bAny, Option.map_eq_some_iff] at hf
    obtain ⟨ns, hn, rfl⟩ := hf
    obtain ⟨a, vs, rfl, ha, ra⟩ := r.lst
    exact ⟨a, ns, rfl, .inl (by rw [← ra.bools hn]; exact ha), k.same er (.bl _)⟩
theorem max2_k : BkOk X (fun xs H Q => ∃ i j, xs = [.int i, .int j] ∧ Q (.int (if j > i then j else i)) H) bMax2 := by
  intro F H own ρ σ Q vs ds c er rd hf k
  match ds, rd, hf with
  | [.int i, .int j], .cons r (.cons r2 .nil), hf => cases hf; rw [r.int, r2.int]; exact ⟨i, j, rfl, k.same er (.int _)⟩
theorem min2_k : BkOk X (fun xs H Q => ∃ i j, xs = [.int i, .int j] ∧ Q (.int (if j < i then j else i)) H) bMin2 := by
  intro F H own ρ σ Q vs ds c er rd hf k
  match ds, rd, hf with
  | [.int i, .int j], .cons r (.cons r2 .nil), hf => cases hf; rw [r.int, r2.int]; exact ⟨i, j, rfl, k.same er (.int _)⟩
section
variable {p : Pos} {m : Sem (List Opd)}
theorem e_len (hg : Gl X "len") (hm : X.mg "len" = none) (ha : EOs clsV W X [a] m) (he : starEach [a] X.env = (false, eval a X.env) :: starEach [] X.env := by rfl) : EC clsV W X (.Call (.Name "len" p) [a] [] pos) (sB bLen m) := e_blt lenR_ok len_k hg hm boot_len ha (by decide) (by decide) he rfl
theorem e_abs (hg : Gl X "abs") (hm : X.mg "abs" = none) (ha : EOs clsV W X [a] m) (he : starEach [a] X.env = (false, eval a X.env) :: starEach [] X.env := by rfl) : EC clsV W X (.Call (.Name "abs" p) [a] [] pos) (sB bAbs m) := e_blt call_abs abs_k hg hm (by decide +kernel) ha (by decide) (by decide) he rfl
theorem e_intT (hg : Gl X "int") (hm : X.mg "int" = none) (ha : EOs clsV W X [a] m) (he : starEach [a] X.env = (false, eval a X.env) :: starEach [] X.env := by rfl) : EC clsV W X (.Call (.Name "int" p) [a] [] pos) (sB bInt m) := e_bty call_int1 int_k hg hm (by decide +kernel) ha (by decide) (by decide) he rfl
theorem e_listT (hc : X.calm = true) (hg : Gl X "list") (hm : X.mg "list" = none) (ha : EOs clsV W X [a] m) (he : starEach [a] X.env = (false, eval a X.env) :: starEach [] X.env := by rfl) : EC clsV W X (.Call (.Name "list" p) [a] [] pos) (sB bList m) := e_bty (call_list_of.or (call_listText hc)) list_k hg hm (by decide +kernel) ha (by decide) (by decide) he rfl
theorem e_tupleT (hg : Gl X "tuple") (hm : X.mg "tuple" = none) (ha : EOs clsV W X [a] m) (he : starEach [a] X.env = (false, eval a X.env) :: starEach [] X.env := by rfl) : EC clsV W X (.Call (.Name "tuple" p) [a] [] pos) (sB bTuple m) := e_bty call_tuple_of tuple_k hg hm (by decide +kernel) ha (by decide) (by decide) he rfl
theorem e_sum (hc : X.calm = true) (hg : Gl X "sum") (hm : X.mg "sum" = none) (ha : EOs clsV W X [a] m) (he : starEach [a] X.env = (false, eval a X.env) :: starEach [] X.env := by rfl) : EC clsV W X (.Call (.Name "sum" p) [a] [] pos) (sB bSum m) := e_blt (cr_sum hc) sum_k hg hm (by decide +kernel) ha (by decide) (by decide) he rfl
theorem e_all (hc : X.calm = true) (hg : Gl X "all") (hm : X.mg "all" = none) (ha : EOs clsV W X [a] m) (he : starEach [a] X.env = (false, eval a X.env) :: starEach [] X.env := by rfl) : EC clsV W X (.Call (.Name "all" p) [a] [] pos) (sB bAll m) := e_blt (cr_all hc) all_k hg hm (by decide +kernel) ha (by decide) (by decide) he rfl
theorem e_any (hc : X.calm = true) (hg : Gl X "any") (hm : X.mg "any" = none) (ha : EOs clsV W X [a] m) (he : starEach [a] X.env = (false, eval a X.env) :: starEach [] X.env := by rfl) : EC clsV W X (.Call (.Name "any" p) [a] [] pos) (sB bAny m) := e_blt (cr_any hc) any_k hg hm (by decide +kernel) ha (by decide) (by decide) he rfl
theorem e_max2 (hc : X.calm = true) (hg : Gl X "max") (hm : X.mg "max" = none) (ha : EOs clsV W X [a, b] m) (he : starEach [a, b] X.env = (false, eval a X.env) :: starEach [b] X.env := by rfl) (hpl : (backTo pos (starEach [b] X.env)).any (·.1) = false := by rfl) : EC clsV W X (.Call (.Name "max" p) [a, b] [] pos) (sB bMax2 m) := e_blt (call_max2 hc) max2_k hg hm (by decide +kernel) ha (by decide) (by decide) he hpl
theorem e_min2 (hc : X.calm = true) (hg : Gl X "min") (hm : X.mg "min" = none) (ha : EOs clsV W X [a, b] m) (he : starEach [a, b] X.env = (false, eval a X.env) :: starEach [b] X.env := by rfl) (hpl : (backTo pos (starEach [b] X.env)).any (·.1) = false := by rfl) : EC clsV W X (.Call (.Name "min" p) [a, b] [] pos) (sB bMin2 m) := e_blt (call_min2 hc) min2_k hg hm (by decide +kernel) ha (by decide) (by decide) he hpl
end

/-! ### isinstance -/
def Ty.name : Ty → String
  | .int => "int"
  | .bool => "bool"
  | .str => "str"
  | .list => "list"
  | .tuple => "tuple"
  | .dict => "dict"
def tyName : D → String
  | .non => "NoneType"
  | .bl _ => "bool"
  | .int _ => "int"
  | .str _ => "str"
  | .tup _ => "tuple"
  | .lst _ => "list"
  | .dic _ => "dict"
  | .klst _ => "list"
theorem isi_kit (t : Ty) (d : D) : kitB (tyName d) t.name = some (isi t d) := by
  cases t <;> cases d <;> (simp only [tyName, Ty.name, isi]; decide +kernel)
/-- isinstance(x, T) by values -/
def rIsiD (K : PySem.W.Frag) (t : Ty) : List V → Hp → VK → Prop := fun xs H Q => ∃ x d F, xs = [x, .ty t.name] ∧ RdR K F H x d ∧ Q (.bl (isi t d)) H
theorem call_isiD {t : Ty} : CallR X (.builtin "isinstance") (rIsiD X.K t) := by
  intro pins s σ H xs us Q I r h
  obtain ⟨x, d, F, rfl, rd, q⟩ := h
  obtain ⟨u1, u2, rfl, r1, r2⟩ := vals2 r
  obtain rfl : u2 = Value.type t.name := r2
  have e : PySem.W.kitOne X.K (.type (tyName d)) (.type t.name) = some (isi t d) := kit_ty (isi_kit t d)
  have fin : ∀ tk, EP X pins σ Q (.bool (isi t d)) { s with toks := tk } := fun tk => ⟨.bl (isi t d), H, I.tok tk, rfl, q⟩
  cases d with
  | non => rw [rd.non] at r1; cases (show u1 = Value.none from r1); exact PySem.W.kia_one PySem.W.kitx_none I.kIn True.intro e (fun z => nomatch z) fin
  | bl y => rw [rd.bl] at r1; cases (show u1 = Value.bool y from r1); exact PySem.W.kia_one PySem.W.kitx_bool I.kIn True.intro e (fun z => nomatch z) fin
  | int y => rw [rd.int] at r1; obtain ⟨t, rfl⟩ := r1; exact PySem.W.kia_one PySem.W.kitx_int I.kIn True.intro e (fun z => nomatch z) fin
  | str y => rw [rd.str] at r1; obtain ⟨t, rfl⟩ := r1; exact PySem.W.kia_one PySem.W.kitx_str I.kIn True.intro e (fun z => nomatch z) fin
  | lst y =>
    obtain ⟨a, vs, rfl, ha, ra⟩ := rd.lst
    cases (show u1 = Value.ref a from r1)
    obtain ⟨_, _, n, _, h1⟩ := ha.ok I.hok
    exact PySem.W.kia_one PySem.W.kitx_list I.kIn ⟨_, h1, rfl⟩ e (fun z => nomatch z) fin
  | klst y =>
    obtain ⟨a, vs, rfl, ha, ra⟩ := rd.klst
    cases (show u1 = Value.ref a from r1)
    obtain ⟨its, _, ⟨o, n, h1, h2, _⟩, _⟩ := I.list ha
    exact PySem.W.kia_one PySem.W.kitx_list I.kIn ⟨o, h1, h2⟩ e (fun z => nomatch z) fin
  | tup y =>
    obtain ⟨a, vs, rfl, ha, ra⟩ := rd.tup
    cases (show u1 = Value.ref a from r1)
    obtain ⟨its, _, ⟨o, h1, h2, _⟩, _⟩ := I.tuple ha
    exact PySem.W.kia_one PySem.W.kitx_tuple I.kIn ⟨o, h1, h2⟩ e (fun z => nomatch z) fin
  | dic y =>
    obtain ⟨a, ps, rfl, dv, rp⟩ := rd.dic
    cases (show u1 = Value.ref a from r1)
    have z : ∃ o, s.heap.get? a = some o ∧ o.ExactDict := by
      cases dv with
      | k h => obtain ⟨_, _, _, _, o, _, _, e, ex, _⟩ := dk_rd I.hok h; exact ⟨o, e, ex⟩
      | t h => obtain ⟨_, _, _, _, o, _, _, e, ex, _⟩ := dt_rd I.hok h; exact ⟨o, e, ex⟩
    obtain ⟨o, h1, h2⟩ := z
    exact PySem.W.kia_one PySem.W.kitx_dict I.kIn ⟨o, h1, h2.1⟩ e (fun z => nomatch z) fin
theorem e_isi {t : Ty} {n : Str} {p q : Pos} (ha : EO clsV W X a ma) (hb : bootBuiltins n = some (.type t.name)) (hg : Gl X "isinstance") (hm : X.mg "isinstance" = none) (hgn : Gl X n) (hmn : X.mg n = none) (hnn : n ≠ "__name__" := by decide) (hdd : (n == ("__debug__" : Str)) = false := by decide)
    (he : starEach [a, .Name n q] X.env = (false, eval a X.env) :: starEach [.Name n q] X.env := by rfl) : EC clsV W X (.Call (.Name "isinstance" p) [a, .Name n q] [] pos) (sBl (sIsi t ma)) :=
  PE.imp (pe_callB (call_isiD (t := t)) hg hm PyProof.Rows.boot_isinstance (pa_cons ha (pa_cons (pe_bltn (v := .ty t.name) hgn hmn hb rfl hnn hdd) pa_nil) he) (by decide) (by decide) he rfl) fun σ H Q h =>
    wp_s1 (r := fun x H1 => rIsiD X.K t [x, .ty t.name] H1 Q) back_E (fun _ _ q => q) h.sBl fun F H2 own ρ v d c er r1 hc k => by
      cases hc
      exact ⟨v, d, F, rfl, r1, k _ F H2 own er Stp.refl rfl⟩
end
end DL
/-! DL over the model, 6: changes of own objects, calls of defs. -/
namespace DL
open PySem PySem.Spec PyProof.Rows L2
section
variable {K : PySem.W.Frag} {F F' : Addr → Prop} {H H' : Hp} {own : Ow} {ρ : Env} {σ : St}
/-- the object that a name may lend -/
theorem ER.lent (e : ER K F H own ρ σ) {i : Nat} {d : D} (h : lent1 ρ i = some d) : ∃ a t, own i = some (a, t) ∧ σ[i]? = some (some (.ref a)) ∧ OwnR K F H a d ∧ ρ[i]? = some (cond t (.io d) (.ow d)) := by
  unfold lent1 at h
  cases hc : ρ[i]? with
  | none => rw [hc] at h; cases h
  | some c =>
    rw [hc] at h
    have q := e.at_ i c hc
    cases c with
    | ow d' => cases h; obtain ⟨a, h1, h2, h3⟩ := q; exact ⟨a, false, h1, h2, h3, rfl⟩
    | io d' => cases h; obtain ⟨a, h1, h2, h3⟩ := q; exact ⟨a, true, h1, h2, h3, rfl⟩
    | no => cases h
    | fr d' => cases h
theorem redo_of {i : Nat} {d d' : D} {t : Bool} (h : ρ[i]? = some (cond t (.io d) (.ow d))) : redo ρ i d' = ρ.set i (cond t (.io d') (.ow d')) := by
  unfold redo
  rw [h]
  cases t <;> rfl
/-- objects that names hold have other contents; nothing else that was there is touched (but frozen things may be locked) -/
theorem ER.changed (e : ER K F H own ρ σ) {ρ' : Env} (hl : ρ'.length = ρ.length) (hF : ∀ a, F a → F' a) (k : Keep F H H') (fd : ∀ a, F' a → H' a ≠ none) (nf : ∀ i a t, own i = some (a, t) → ¬ F' a)
    (hc : ∀ i c, ρ'[i]? = some c → (∃ a t d, own i = some (a, t) ∧ c = cond t (.io d) (.ow d) ∧ OwnR K F' H' a d) ∨ (ρ[i]? = some c ∧ ∀ a t, own i = some (a, t) → H' a = H a)) : ER K F' H' own ρ' σ := by
  refine ⟨hl.trans e.len, fd, fun i c h => ?_, fun i h => e.out i ?_, e.inj, nf⟩
  · rcases hc i c h with ⟨a, t, d, h1, rfl, o⟩ | ⟨h1, hk⟩
    · have hi : i < ρ.length := by
        have := (List.getElem?_eq_some_iff.mp h).1
        rwa [hl] at this
      have q := e.at_ i ρ[i] (List.getElem?_eq_some_iff.mpr ⟨hi, rfl⟩)
      have hs : σ[i]? = some (some (.ref a)) := by
        cases hcc : ρ[i] with
        | no => rw [hcc] at q; rw [show own i = none from q] at h1; cases h1
        | fr d' => rw [hcc] at q; rw [q.1] at h1; cases h1
        | ow d' => rw [hcc] at q; obtain ⟨b, h2, h3, _⟩ := q; rw [h1] at h2; cases h2; exact h3
        | io d' => rw [hcc] at q; obtain ⟨b, h2, h3, _⟩ := q; rw [h1] at h2; cases h2; exact h3
      cases t with
      | true => exact ⟨a, h1, hs, o⟩
      | false => exact ⟨a, h1, hs, o⟩
    · have q := e.at_ i c h1
      cases c with
      | no => exact q
      | fr d => exact ⟨q.1, q.2.imp fun w r => ⟨r.1, r.2.mono hF k⟩⟩
      | ow d => obtain ⟨a, h2, h3, o⟩ := q; exact ⟨a, h2, h3, o.mono hF k (hk a false h2)⟩
      | io d => obtain ⟨a, h2, h3, o⟩ := q; exact ⟨a, h2, h3, o.mono hF k (hk a true h2)⟩
  · rw [List.getElem?_eq_none_iff] at h ⊢
    omega
theorem redo_len (ρ : Env) (i : Nat) (d : D) : (redo ρ i d).length = ρ.length := by
  unfold redo
  split <;> simp
/-- one object changed -/
theorem ER.change (e : ER K F H own ρ σ) {i : Nat} {a : Addr} {t : Bool} {d d' : D} {u : HO} (h1 : own i = some (a, t)) (h2 : ρ[i]? = some (cond t (.io d) (.ow d))) (o : OwnR K F H a d) (o' : OwnR K F (upd H a u) a d') :
    ER K F (upd H a u) own (redo ρ i d') σ ∧ Stp F H own F (upd H a u) own := by
  have k : Keep F H (upd H a u) := fun b f => .inl (upd_ne fun z => e.nf i a t h1 (z ▸ f))
  have dom : ∀ b, H b ≠ none → upd H a u b ≠ none := fun b hb => by
    by_cases z : b = a
    · subst z; rw [upd_same]; exact fun q => by cases q
    · rw [upd_ne z]; exact hb
  refine ⟨e.changed (redo_len _ _ _) (fun _ f => f) k (fun b f => dom b (e.fdom b f)) e.nf fun j c hj => ?_, ⟨fun _ f => f, k, fun b w hb _ ho => ?_, fun _ f => .inl f, fun j b s hb => .inl hb, dom⟩⟩
  · rw [redo_of h2] at hj
    by_cases z : j = i
    · subst z
      have hl : j < ρ.length := (List.getElem?_eq_some_iff.mp h2).1
      rw [List.getElem?_set_self hl] at hj
      cases hj
      exact .inl ⟨a, t, d', h1, rfl, o'⟩
    · rw [List.getElem?_set_ne (Ne.symm z)] at hj
      exact .inr ⟨hj, fun b s hb => upd_ne fun q => z (e.inj j i a s t (q ▸ hb) h1)⟩
  · rw [upd_ne (fun (z : b = a) => ho i t (by rw [z]; exact h1))]; exact hb
end
section
variable {α β γ δ : Type} {clsV : Nat → Value} {K : PySem.W.Frag} {F : Addr → Prop} {H : Hp} {own : Ow} {ρ : Env} {σ : St} {W : WX} {Rel : RelT γ δ}
/-- a later state wishes no less -/
theorem wpS.later {m : Sem γ} {Q : δ → Hp → Prop} {F1 : Addr → Prop} {H1 : Hp} {o1 : Ow} {ρ' : Env} (bk : Back Rel) (s : Stp F H own F1 H1 o1)
    (h : match m ρ' with
      | .ok a ρ2 => ∀ b F' H' own', ER K F' H' own' ρ2 σ → Stp F H own F' H' own' → Rel F' H H' own' σ b a → Q b H'
      | .exc x ρ2 => ∀ c d F' H' own', ER K F' H' own' ρ2 σ → Stp F H own F' H' own' → ExR clsV K F' H' x c d → W c d σ H'
      | .bad => False) : wpS clsV K W Rel m ρ' F1 o1 σ H1 Q := by
  unfold wpS
  cases em : m ρ' with
  | ok a ρ2 => rw [em] at h; exact fun b F' H' own' er st r => h b F' H' own' er (s.trans st) (bk.run s r)
  | exc x ρ2 => rw [em] at h; exact fun c d F' H' own' er st r => h c d F' H' own' er (s.trans st) r
  | bad => rw [em] at h; exact h
theorem wpS.change {i : Nat} {f : D → Option (β × D)} {k : β → Sem γ} {Q : δ → Hp → Prop} (bk : Back Rel) (e : ER K F H own ρ σ) (h : wpS clsV K W Rel (bind' (DL.change i f) k) ρ F own σ H Q) :
    ∃ a t d c d', own i = some (a, t) ∧ σ[i]? = some (some (.ref a)) ∧ OwnR K F H a d ∧ f d = some (c, d') ∧ ∀ u, OwnR K F (upd H a u) a d' → ER K F (upd H a u) own (redo ρ i d') σ ∧ wpS clsV K W Rel (k c) (redo ρ i d') F own σ (upd H a u) Q := by
  have h' := h
  unfold wpS bind' DL.change at h'
  cases h1 : lent1 ρ i with
  | none => rw [h1] at h'; exact h'.elim
  | some d =>
    cases h2 : f d with
    | none => rw [h1] at h'; dsimp only at h'; rw [h2] at h'; exact h'.elim
    | some q =>
      obtain ⟨c, d'⟩ := q
      rw [h1] at h'
      dsimp only at h'
      rw [h2] at h'
      obtain ⟨a, t, o1, o2, o3, o4⟩ := e.lent h1
      refine ⟨a, t, d, c, d', o1, o2, o3, h2, fun u ou => ?_⟩
      obtain ⟨e', s'⟩ := e.change o1 o4 o3 ou
      exact ⟨e', wpS.later bk s' h'⟩
end
section
variable {clsV : Nat → Value} {X : Cx} {W : WX} {a b c e : Expr} {es : List Expr} {pos : Pos} {ma mb mc : Sem Opd}
theorem oVar_rel {K : PySem.W.Frag} {σ : St} {H : Hp} {i : Nat} {γ δ : Type} {Rel : RelT γ δ} {k : Unit → Sem γ} {Q : δ → Hp → Prop} {g : D → Option Unit} (h : tG clsV K W Rel (bind' (s1 (oVar i) g) k) σ H Q) :
    ∃ ρ F own v d, ER K F H own ρ σ ∧ σ[i]? = some (some v) ∧ RdR K F H v d ∧ g d = some () ∧ wpS clsV K W Rel (k ()) ρ F own σ H Q := by
  obtain ⟨ρ, F, own, e, h⟩ := h
  have h' := h
  unfold wpS bind' s1 bind' oVar rdO opt at h'
  cases hd : (ρ[i]?).bind Cell.dat with
  | none => rw [hd] at h'; exact h'.elim
  | some d =>
    obtain ⟨v, hv, r⟩ := e.rd hd
    cases hg : g d with
    | none => simp only [hd, getO, hg] at h'
    | some u => simp only [hd, getO, hg] at h'; exact ⟨ρ, F, own, v, d, e, hv, r, hg, h'⟩
/-- x.append(e) -/
theorem append_of {e d d' c : D} (h : append e d = some (c, d')) : ∃ xs, d = .lst xs ∧ c = .non ∧ d' = .lst (xs ++ [e]) ∧ xs.length < LIM := by
  cases d <;> simp only [append, reduceCtorEq, Option.ite_none_right_eq_some, Option.some.injEq, Prod.mk.injEq] at h
  obtain ⟨h1, rfl, rfl⟩ := h
  exact ⟨_, rfl, rfl, rfl, h1⟩
theorem e_append {i : Nat} {x : Str} {p q : Pos} {m : Sem D} (hN : X.N[i]? = some x) (hv : Vis X.env.scope x) (ha : ED clsV W X a m) (hd : (x == ("__debug__" : Str)) = false := by decide) (hcd : (x == ("__classdict__" : Str)) = false := by decide)
    (hbase : attributeBase (.Name x p) "append" X.env (eval (.Name x p) X.env) = eval (.Name x p) X.env := by rfl)
    (hfew : ((backTo pos (starEach [a] X.env)).all (fun x => !x.1) && (backToKw pos (keywordEach [] X.env)).all (fun x => x.1.isSome) && decide (([a] : List Expr).length + ([] : List Keyword).length + (if ([] : List Keyword).isEmpty then 0 else 1) < 30)) = true := by rfl)
    (hline : (q.endLine == pos.line) = true := by rfl) (hs : starEach [a] X.env = (false, eval a X.env) :: starEach [] X.env := by rfl) :
    EC clsV W X (.Call (.Attribute (.Name x p) "append" q) [a] [] pos) (sMut i append m) :=
  PE.imp (pe_bm PySem.F.plainAttrs_list PySem.F.slot_list_append PySem.F.type_list_append mt_append (pe_var (i := i) hN hv hd hcd) (pa_cons ha pa_nil hs) hbase hfew hline hs rfl) fun σ H Q h => by
    obtain ⟨ρ, F, own, v, d, er, hv, r, hg, h⟩ := oVar_rel h
    cases d <;> simp only [isLst, reduceCtorEq] at hg
    obtain ⟨b, vs, rfl, hb, rb⟩ := r.lst
    refine ⟨_, hv, .inl ⟨rfl, vs, .inl hb⟩, tG.mono (wpS.bind (Rel1 := relD X.K) back_C er h) fun w H1 ⟨ed, ρ1, F1, own1, e1, s1, r1, h1⟩ => ?_⟩
    obtain ⟨b', t, d, c, d', o1, o2, o3, hf, k⟩ := wpS.change back_C e1 h1
    obtain ⟨xs, rfl, rfl, rfl, hl⟩ := append_of hf
    rw [hv] at o2
    cases o2
    cases o3 with
    | @lst ws _ hw rw' =>
      have r1' : RepD X.K F1 H1 w ed := r1
      have kp : Keep F1 H1 (upd H1 b (.lst (ws ++ [w]))) := fun y f => .inl (upd_ne fun z => e1.nf i b t o1 (z ▸ f))
      obtain ⟨e2, k2⟩ := k (.lst (ws ++ [w])) (.lst upd_same ((rw'.mono (fun _ f => f) kp).append (.cons (r1'.mono (fun _ f => f) kp) .nil)))
      have hlen := rw'.length
      have lim := lim_eq
      exact ⟨b, ws, w, rfl, rfl, hw, by omega, k2 .non F1 _ own1 e2 Stp.refl .non⟩
/-- x.pop(n) -/
theorem popAt_of {e d d' c : D} (h : popAt e d = some (c, d')) : ∃ xs i j, e = .int i ∧ d = .lst xs ∧ ixN xs.length i = some j ∧ xs[j]? = some c ∧ d' = .lst (xs.eraseIdx j) ∧ xs.length ≤ LIM := by
  cases d <;> simp only [popAt, reduceCtorEq] at h
  cases e <;> simp only [reduceCtorEq, Option.bind_eq_some_iff, Option.map_eq_some_iff, Prod.mk.injEq, Option.ite_none_right_eq_some] at h
  obtain ⟨hl, j, h1, y, h2, rfl, rfl⟩ := h
  exact ⟨_, _, j, rfl, rfl, h1, h2, rfl, hl⟩
theorem e_popAt {i : Nat} {x : Str} {p q : Pos} {m : Sem D} (hN : X.N[i]? = some x) (hv : Vis X.env.scope x) (ha : ED clsV W X a m) (hd : (x == ("__debug__" : Str)) = false := by decide) (hcd : (x == ("__classdict__" : Str)) = false := by decide)
    (hbase : attributeBase (.Name x p) "pop" X.env (eval (.Name x p) X.env) = eval (.Name x p) X.env := by rfl)
    (hfew : ((backTo pos (starEach [a] X.env)).all (fun x => !x.1) && (backToKw pos (keywordEach [] X.env)).all (fun x => x.1.isSome) && decide (([a] : List Expr).length + ([] : List Keyword).length + (if ([] : List Keyword).isEmpty then 0 else 1) < 30)) = true := by rfl)
    (hline : (q.endLine == pos.line) = true := by rfl) (hs : starEach [a] X.env = (false, eval a X.env) :: starEach [] X.env := by rfl) :
    EC clsV W X (.Call (.Attribute (.Name x p) "pop" q) [a] [] pos) (sMut i popAt m) :=
  PE.imp (pe_bm PySem.F.plainAttrs_list PySem.F.slot_list_pop PySem.F.type_list_pop mt_popAt (pe_var (i := i) hN hv hd hcd) (pa_cons ha pa_nil hs) hbase hfew hline hs rfl) fun σ H Q h => by
    obtain ⟨ρ, F, own, v, d, er, hv, r, hg, h⟩ := oVar_rel h
    cases d <;> simp only [isLst, reduceCtorEq] at hg
    obtain ⟨b, vs, rfl, hb, rb⟩ := r.lst
    refine ⟨_, hv, .inl ⟨rfl, vs, .inl hb⟩, tG.mono (wpS.bind (Rel1 := relD X.K) back_C er h) fun w H1 ⟨ed, ρ1, F1, own1, e1, s1, r1, h1⟩ => ?_⟩
    obtain ⟨b', t, d, c, d', o1, o2, o3, hf, k⟩ := wpS.change back_C e1 h1
    obtain ⟨xs, n, j, rfl, rfl, hj, hc, rfl, hl⟩ := popAt_of hf
    rw [hv] at o2
    cases o2
    cases o3 with
    | @lst ws _ hw rw' =>
      have r1' : RepD X.K F1 H1 w (.int n) := r1
      cases r1'
      have kp : Keep F1 H1 (upd H1 b (.lst (ws.eraseIdx j))) := fun y f => .inl (upd_ne fun z => e1.nf i b t o1 (z ▸ f))
      obtain ⟨e2, k2⟩ := k (.lst (ws.eraseIdx j)) (.lst upd_same ((rw'.mono (fun _ f => f) kp).erase j))
      obtain ⟨y, hy, ry⟩ := rw'.get hc
      have hlen := rw'.length
      obtain ⟨q1, q2, q3, q4⟩ := L2.ixN_seq (n := xs.length) (i := n) (j := j) hj
      have hL : LIM = 16777216 := rfl
      exact ⟨b, ws, n, j, y, rfl, rfl, hw, by omega, by omega, by rw [hlen]; exact q1, hy, k2 y F1 _ own1 e2 Stp.refl (ry.mono (fun _ f => f) kp)⟩

/-! ### calls of defs -/
/-- objects that are lent -/
inductive Owns (K : PySem.W.Frag) (F : Addr → Prop) (H : Hp) : List Addr → List D → Prop
  | nil : Owns K F H [] []
  | cons {a as d ds} : OwnR K F H a d → Owns K F H as ds → Owns K F H (a :: as) (d :: ds)
def lentOf (as : List Addr) : Ow := fun i => (as[i]?).map fun a => (a, true)
/-- what a value that comes out of a call is -/
def resC (K : PySem.W.Frag) (F' : Addr → Prop) (H H' : Hp) (v : V) (c : Cell) : Prop := match c with
  | .fr d => RepD K F' H' v d
  | .ow d => ∃ a, v = .ref a ∧ H a = none ∧ ¬ F' a ∧ OwnR K F' H' a d
  | _ => False
/-- what a def promises, as the plain function Γ tells -/
def spF (clsV : Nat → Value) (K : PySem.W.Frag) (Γ : Ora) (f nio : Nat) : Sp := fun vs H Q E => ∃ (F : Addr → Prop) (as : List Addr) (dio ds : List D) (v2 : List V),
  vs = as.map V.ref ++ v2 ∧ as.length = nio ∧ as.Nodup ∧ Owns K F H as dio ∧ (∀ a ∈ as, ¬ F a) ∧ (∀ a, F a → H a ≠ none) ∧ RepL K F H v2 ds ∧
  match Γ f (dio.map Cell.io ++ ds.map Cell.fr) with
  | .ok c os => ∀ v F' H', Stp F H (lentOf as) F' H' (lentOf as) → Owns K F' H' as os → (∀ a ∈ as, ¬ F' a) → (∀ a, F' a → H' a ≠ none) → resC K F' H H' v c → Q v H'
  | .exc x os => ∀ c d F' H', Stp F H (lentOf as) F' H' (lentOf as) → Owns K F' H' as os → (∀ a ∈ as, ¬ F' a) → (∀ a, F' a → H' a ≠ none) → ExR clsV K F' H' x c d → E c d H'
  | .bad => False
section
variable {K : PySem.W.Frag} {F F' : Addr → Prop} {H H' : Hp} {own : Ow} {ρ : Env} {σ : St}
theorem Owns.length : ∀ {as ds}, Owns K F H as ds → as.length = ds.length
  | _, _, .nil => rfl
  | _, _, .cons _ t => congrArg (· + 1) (Owns.length t)
/-- the slots of lent names, their objects -/
theorem ER.lents (e : ER K F H own ρ σ) : ∀ {ios : List Nat} {dio : List D}, DL.lent ρ ios = some dio → ∃ as, as.length = ios.length ∧ Owns K F H as dio ∧
    (∀ k i : Nat, ios[k]? = some i → ∃ (a : Addr) (t : Bool) (d : D), as[k]? = some a ∧ own i = some (a, t) ∧ σ[i]? = some (some (.ref a)) ∧ ρ[i]? = some (cond t (.io d) (.ow d)))
  | [], dio, h => by cases h; exact ⟨[], rfl, .nil, fun k i h => by simp at h⟩
  | i :: ios, dio, h => by
    unfold DL.lent at h
    cases h1 : lent1 ρ i with
    | none => rw [h1] at h; cases h
    | some d =>
      cases h2 : DL.lent ρ ios with
      | none => rw [h1, h2] at h; cases h
      | some ds =>
        rw [h1, h2] at h
        cases h
        obtain ⟨as, l1, o1, g1⟩ := ER.lents e h2
        obtain ⟨a, t, q1, q2, q3, q4⟩ := e.lent h1
        refine ⟨a :: as, by rw [List.length_cons, List.length_cons, l1], .cons q3 o1, fun k j hk => ?_⟩
        cases k with
        | zero => simp at hk; subst hk; exact ⟨a, t, d, rfl, q1, q2, q4⟩
        | succ k => simpa using g1 k j (by simpa using hk)
/-- behind a call: the lent names hold what came back -/
theorem ER.backs (e : ER K F H own ρ σ) (hF : ∀ a, F a → F' a) (k : Keep F H H') (fd : ∀ a, F' a → H' a ≠ none) (nf : ∀ i a t, own i = some (a, t) → ¬ F' a) :
    ∀ (ios : List Nat) (as : List Addr) (os : List D) (ρ0 : Env), ios.Nodup → Owns K F' H' as os → as.length = ios.length → ρ0.length = ρ.length →
      (∀ k i : Nat, ios[k]? = some i → ∃ (a : Addr) (t : Bool) (d : D), as[k]? = some a ∧ own i = some (a, t) ∧ ρ0[i]? = some (cond t (.io d) (.ow d))) →
      (∀ i c, ρ0[i]? = some c → (∃ a t d, own i = some (a, t) ∧ c = cond t (.io d) (.ow d) ∧ OwnR K F' H' a d) ∨ (i ∈ ios) ∨ (ρ[i]? = some c ∧ ∀ a t, own i = some (a, t) → H' a = H a)) → ER K F' H' own (back ρ0 ios os) σ
  | [], as, os, ρ0, _, ho, hl, hr, _, hc => by
    have : back ρ0 [] os = ρ0 := by cases os <;> rfl
    rw [this]
    refine e.changed hr hF k fd nf fun i c h => ?_
    rcases hc i c h with q | q | q
    · exact .inl q
    · cases q
    · exact .inr q
  | i :: ios, [], os, ρ0, _, ho, hl, hr, _, hc => by simp at hl
  | i :: ios, a :: as, _, ρ0, nd, .cons (d := d) (ds := ds) o ot, hl, hr, hg, hc => by
    obtain ⟨a', t, d0, g1, g2, g3⟩ := hg 0 i rfl
    simp at g1
    subst g1
    have nd' := List.nodup_cons.mp nd
    have hi : i < ρ0.length := (List.getElem?_eq_some_iff.mp g3).1
    show ER K F' H' own (back (redo ρ0 i d) ios ds) σ
    refine ER.backs e hF k fd nf ios as ds (redo ρ0 i d) nd'.2 ot (by simpa using hl) ((redo_len _ _ _).trans hr) (fun k j hk => ?_) fun j c hj => ?_
    · obtain ⟨b, s, d1, q1, q2, q3⟩ := hg (k + 1) j (by simpa using hk)
      refine ⟨b, s, d1, by simpa using q1, q2, ?_⟩
      rw [redo_of g3, List.getElem?_set_ne]
      · exact q3
      · rintro rfl
        exact nd'.1 (List.mem_of_getElem? hk)
    · rw [redo_of g3] at hj
      by_cases z : j = i
      · subst z
        rw [List.getElem?_set_self hi] at hj
        cases hj
        exact .inl ⟨a, t, d, g2, rfl, o⟩
      · rw [List.getElem?_set_ne (Ne.symm z)] at hj
        rcases hc j c hj with q | q | q
        · exact .inl q
        · rcases List.mem_cons.mp q with q | q
          · exact (z q).elim
          · exact .inr (.inl q)
        · exact .inr (.inr q)
end
section
variable {K : PySem.W.Frag} {F : Addr → Prop} {H : Hp} {own : Ow} {ρ : Env} {σ : St}
theorem lentOf_some {as : List Addr} {i : Nat} {a : Addr} {t : Bool} (h : lentOf as i = some (a, t)) : as[i]? = some a ∧ t = true := by
  unfold lentOf at h
  rw [Option.map_eq_some_iff] at h
  obtain ⟨b, h1, h2⟩ := h
  cases h2
  exact ⟨h1, rfl⟩
/-- a step that lends: from the callee's view to the caller's -/
theorem Stp.lend {F' : Addr → Prop} {H' : Hp} {as : List Addr} (s : Stp F H (lentOf as) F' H' (lentOf as)) (sub : ∀ a ∈ as, ∃ i t, own i = some (a, t)) : Stp F H own F' H' own := by
  refine ⟨s.mono, s.rd, fun a o h nf ho => s.keep a o h nf fun i t z => ?_, fun a h => ?_, fun i a t h => .inl h, s.dom⟩
  · obtain ⟨z1, _⟩ := lentOf_some z
    obtain ⟨j, u, hj⟩ := sub a (List.mem_of_getElem? z1)
    exact ho j u hj
  · rcases s.newF a h with q | q | ⟨i, t, q⟩ | q
    · exact .inl q
    · exact .inr (.inl q)
    · obtain ⟨z1, _⟩ := lentOf_some q
      exact .inr (.inr (.inl (sub a (List.mem_of_getElem? z1))))
    · exact .inr (.inr (.inr q))
/-- a call, the values there -/
theorem wp_call1 {clsV : Nat → Value} {W : WX} {Γ : Ora} {f nio : Nat} {ios : List Nat} {ds : List D} {vs : List V} {Q : VK} (e : ER K F H own ρ σ) (r : RepL K F H vs ds) (nd : ios.Nodup) (hn : ios.length = nio)
    (h : wpS clsV K W (relC K) (sCall1 Γ f ios ds) ρ F own σ H Q) : ∃ as : List Addr, (∀ k i : Nat, ios[k]? = some i → ∃ a, as[k]? = some a ∧ σ[i]? = some (some (V.ref a))) ∧ as.length = ios.length ∧ spF clsV K Γ f nio (as.map V.ref ++ vs) H Q (fun c d H' => W c d σ H') := by
  have h' := h
  unfold wpS sCall1 at h'
  cases hl : DL.lent ρ ios with
  | none => rw [hl] at h'; exact h'.elim
  | some dio =>
    rw [hl] at h'
    dsimp only at h'
    obtain ⟨as, l1, o1, g1⟩ := e.lents hl
    have sub : ∀ a ∈ as, ∃ i t, own i = some (a, t) := fun a ha => by
      obtain ⟨k, hk, ek⟩ := List.mem_iff_getElem.mp ha
      obtain ⟨b, t, d, q1, q2, _⟩ := g1 k ios[k] (List.getElem?_eq_some_iff.mpr ⟨by omega, rfl⟩)
      rw [List.getElem?_eq_some_iff.mpr ⟨hk, ek⟩] at q1
      cases q1
      exact ⟨_, t, q2⟩
    have ndA : as.Nodup := by
      rw [List.nodup_iff_pairwise_ne, List.pairwise_iff_getElem]
      intro j k hj hk hjk ejk
      obtain ⟨b, t, d, q1, q2, _⟩ := g1 j ios[j] (List.getElem?_eq_some_iff.mpr ⟨by omega, rfl⟩)
      obtain ⟨b', t', d', q1', q2', _⟩ := g1 k ios[k] (List.getElem?_eq_some_iff.mpr ⟨by omega, rfl⟩)
      rw [List.getElem?_eq_some_iff.mpr ⟨hj, rfl⟩] at q1
      rw [List.getElem?_eq_some_iff.mpr ⟨hk, rfl⟩] at q1'
      cases q1
      cases q1'
      have := e.inj _ _ _ _ _ q2 (ejk ▸ q2')
      have := (List.getElem_inj nd).mp this
      omega
    refine ⟨as, fun k i hk => ?_, l1, F, as, dio, ds, vs, rfl, l1.trans hn, ndA, o1, fun a ha f => ?_, e.fdom, r, ?_⟩
    · obtain ⟨a, t, d, q1, q2, q3, _⟩ := g1 k i hk
      exact ⟨a, q1, q3⟩
    · obtain ⟨i, t, hi⟩ := sub a ha
      exact e.nf i a t hi f
    · have post : ∀ (F' : Addr → Prop) (H' : Hp) (os : List D), Stp F H (lentOf as) F' H' (lentOf as) → Owns K F' H' as os → (∀ a ∈ as, ¬ F' a) → (∀ a, F' a → H' a ≠ none) → ER K F' H' own (back ρ ios os) σ ∧ Stp F H own F' H' own := fun F' H' os s ho nf' fd' => by
        have others : ∀ i a t, own i = some (a, t) → a ∉ as → H' a = H a ∧ ¬ F' a := fun i a t hi ha => by
          have hcell : ∃ w, H a = some w ∧ Mut (some w) := by
            cases hc : ρ[i]? with
            | none => rw [e.out i hc] at hi; cases hi
            | some c =>
              have q := e.at_ i c hc
              cases c with
              | no => rw [show own i = none from q] at hi; cases hi
              | fr d => rw [q.1] at hi; cases hi
              | ow d => obtain ⟨b, q1, _, o⟩ := q; rw [hi] at q1; cases q1; exact o.some
              | io d => obtain ⟨b, q1, _, o⟩ := q; rw [hi] at q1; cases q1; exact o.some
          obtain ⟨w, hw, mu⟩ := hcell
          refine ⟨(s.keep a w hw (e.nf i a t hi) fun j u z => ?_).trans hw.symm, fun f => ?_⟩
          · exact ha (List.mem_of_getElem? (lentOf_some z).1)
          · rcases s.newF a f with q | q | ⟨j, u, q⟩ | ⟨xs, q⟩
            · exact e.nf i a t hi q
            · rw [hw] at q; cases q
            · exact ha (List.mem_of_getElem? (lentOf_some q).1)
            · rw [hw] at q; cases q; exact mu.elim
        refine ⟨ER.backs e s.mono s.rd fd' (fun i a t hi => ?_) ios as os ρ nd ho l1 rfl (fun k i hk => ?_) fun i c hc => ?_, s.lend sub⟩
        · by_cases ha : a ∈ as
          · exact nf' a ha
          · exact (others i a t hi ha).2
        · obtain ⟨a, t, d, q1, q2, _, q4⟩ := g1 k i hk
          exact ⟨a, t, d, q1, q2, q4⟩
        · by_cases hi : i ∈ ios
          · exact .inr (.inl hi)
          · refine .inr (.inr ⟨hc, fun a t ha => (others i a t ha fun hm => ?_).1⟩)
            obtain ⟨k, hk, ek⟩ := List.mem_iff_getElem.mp hm
            obtain ⟨b, u, d, q1, q2, _⟩ := g1 k ios[k] (List.getElem?_eq_some_iff.mpr ⟨by omega, rfl⟩)
            rw [List.getElem?_eq_some_iff.mpr ⟨hk, ek⟩] at q1
            cases q1
            have := e.inj _ _ _ _ _ ha q2
            exact hi (this ▸ List.getElem_mem _)
      cases hG : Γ f (dio.map Cell.io ++ ds.map Cell.fr) with
      | bad => rw [hG] at h'; exact h'
      | ok c os =>
        rw [hG] at h'
        intro v F' H' s ho nf' fd' rv
        obtain ⟨e', s'⟩ := post F' H' os s ho nf' fd'
        refine h' v F' H' own e' s' ?_
        cases c with
        | fr d => exact rv
        | ow d =>
          obtain ⟨a, h1, h2, h3, h4⟩ := rv
          exact ⟨a, h1, h2, h3, (e.noFresh h2).2, h4⟩
        | no => exact rv
        | io d => exact rv
      | exc x os =>
        rw [hG] at h'
        intro c d F' H' s ho nf' fd' rx
        obtain ⟨e', s'⟩ := post F' H' os s ho nf' fd'
        exact h' c d F' H' own e' s' rx
end
section
variable {clsV : Nat → Value} {X : Cx} {W : WX} {a b c e : Expr} {es : List Expr} {pos p q : Pos} {k f np : Nat} {g : Addr} {fd : FuncData} {ps : List Str} {Γ : Ora} {x y : Str} {m : Sem (List D)}
theorem wp_lentOk {γ δ : Type} {K : PySem.W.Frag} {σ : St} {H : Hp} {ios : List Nat} {Rel : RelT γ δ} {k : Unit → Sem γ} {Q : δ → Hp → Prop} (h : tG clsV K W Rel (bind' (lentOk ios) k) σ H Q) :
    ∃ ρ F own dio, ER K F H own ρ σ ∧ DL.lent ρ ios = some dio ∧ wpS clsV K W Rel (k ()) ρ F own σ H Q := by
  obtain ⟨ρ, F, own, e, h⟩ := h
  have h' := h
  unfold wpS bind' lentOk at h'
  cases hl : DL.lent ρ ios with
  | none => rw [hl] at h'; exact h'.elim
  | some dio => rw [hl] at h'; exact ⟨ρ, F, own, dio, e, hl, h'⟩
/-- f(values) -/
theorem e_call0 (F : FnOk X.prog X.w X.K X.mg X.base (L2.CX X.prog X.w) k g fd ps (spF clsV X.K Γ f 0)) (hr : Room k X.A) (tk : Takes X W) (hg : Gl X x) (hm : X.mg x = some (.ref g)) (hk : PySem.W.keepIn X.K (.ref g) = true) (hb : Binds X.K fd ps [])
    (ha : EL clsV W X (e :: es) m) (hdb : (x == ("__debug__" : Str)) = false := by decide) (he : starEach (e :: es) X.env = (false, eval e X.env) :: starEach es X.env := by rfl) (hpl : (backTo pos (starEach es X.env)).any (·.1) = false := by rfl) :
    EC clsV W X (.Call (.Name x p) (e :: es) [] pos) (sCall Γ f [] m) :=
  PE.imp (pe_callS F hr hg hm hk hb (fun σ => passAt tk σ) ha hdb he hpl) fun σ H Q h => by
    obtain ⟨ρ, F, own, dio, er, hl, h⟩ := wp_lentOk h
    refine tG.mono (wpS.bind (Rel1 := relL X.K) back_C er h) fun vs H1 ⟨ds, ρ1, F1, own1, e1, s1, r1, h1⟩ => ?_
    obtain ⟨as, _, l1, q⟩ := wp_call1 e1 r1 (List.nodup_nil) rfl h1
    have : as = [] := List.length_eq_zero_iff.mp l1
    subst this
    exact q
/-- f(a lent name, values) -/
theorem e_call1 {i : Nat} (F : FnOk X.prog X.w X.K X.mg X.base (L2.CX X.prog X.w) k g fd ps (spF clsV X.K Γ f 1)) (hr : Room k X.A) (tk : Takes X W) (hg : Gl X x) (hm : X.mg x = some (.ref g)) (hk : PySem.W.keepIn X.K (.ref g) = true) (hb : Binds X.K fd ps [])
    (hN : X.N[i]? = some y) (hv : Vis X.env.scope y) (ha : EL clsV W X es m) (hd : (y == ("__debug__" : Str)) = false := by decide) (hcd : (y == ("__classdict__" : Str)) = false := by decide)
    (hdb : (x == ("__debug__" : Str)) = false := by decide) (he : starEach (.Name y q :: es) X.env = (false, eval (.Name y q) X.env) :: starEach es X.env := by rfl) (hpl : (backTo pos (starEach es X.env)).any (·.1) = false := by rfl) :
    EC clsV W X (.Call (.Name x p) (.Name y q :: es) [] pos) (sCall Γ f [i] m) :=
  PE.imp (pe_callS F hr hg hm hk hb (fun σ => passAt tk σ) (pa_cons (pe_var (i := i) hN hv hd hcd) ha he) hdb he hpl) fun σ H Q h => by
    obtain ⟨ρ, F, own, dio, er, hl, h⟩ := wp_lentOk h
    obtain ⟨as0, l0, o0, g0⟩ := er.lents hl
    obtain ⟨a, t, d, _, _, hs, _⟩ := g0 0 i rfl
    refine ⟨_, hs, tG.mono (wpS.bind (Rel1 := relL X.K) back_C er h) fun vs H1 ⟨ds, ρ1, F1, own1, e1, s1, r1, h1⟩ => ?_⟩
    obtain ⟨as, g1, l1, q⟩ := wp_call1 e1 r1 (List.nodup_cons.mpr ⟨by simp, List.nodup_nil⟩) rfl h1
    obtain ⟨b, q1, q2⟩ := g1 0 i rfl
    rw [hs] at q2
    cases q2
    match as, l1, q1, q with
    | [b'], _, q1, q => simp at q1; subst q1; exact q
/-- f(two lent names, values) -/
theorem e_call2 {i j : Nat} {z : Str} {q2 : Pos} (hij : i ≠ j) (F : FnOk X.prog X.w X.K X.mg X.base (L2.CX X.prog X.w) k g fd ps (spF clsV X.K Γ f 2)) (hr : Room k X.A) (tk : Takes X W) (hg : Gl X x) (hm : X.mg x = some (.ref g)) (hk : PySem.W.keepIn X.K (.ref g) = true) (hb : Binds X.K fd ps [])
    (hN : X.N[i]? = some y) (hv : Vis X.env.scope y) (hN2 : X.N[j]? = some z) (hv2 : Vis X.env.scope z) (ha : EL clsV W X es m) (hd : (y == ("__debug__" : Str)) = false := by decide) (hcd : (y == ("__classdict__" : Str)) = false := by decide)
    (hd2 : (z == ("__debug__" : Str)) = false := by decide) (hcd2 : (z == ("__classdict__" : Str)) = false := by decide)
    (hdb : (x == ("__debug__" : Str)) = false := by decide) (he : starEach (.Name y q :: .Name z q2 :: es) X.env = (false, eval (.Name y q) X.env) :: starEach (.Name z q2 :: es) X.env := by rfl) (he2 : starEach (.Name z q2 :: es) X.env = (false, eval (.Name z q2) X.env) :: starEach es X.env := by rfl) (hpl : (backTo pos (starEach (.Name z q2 :: es) X.env)).any (·.1) = false := by rfl) :
    EC clsV W X (.Call (.Name x p) (.Name y q :: .Name z q2 :: es) [] pos) (sCall Γ f [i, j] m) :=
  PE.imp (pe_callS F hr hg hm hk hb (fun σ => passAt tk σ) (pa_cons (pe_var (i := i) hN hv hd hcd) (pa_cons (pe_var (i := j) hN2 hv2 hd2 hcd2) ha he2) he) hdb he hpl) fun σ H Q h => by
    obtain ⟨ρ, F, own, dio, er, hl, h⟩ := wp_lentOk h
    obtain ⟨as0, l0, o0, g0⟩ := er.lents hl
    obtain ⟨a, t, d, _, _, hs, _⟩ := g0 0 i rfl
    obtain ⟨a', t', d', _, _, hs', _⟩ := g0 1 j rfl
    refine ⟨_, hs, _, hs', tG.mono (wpS.bind (Rel1 := relL X.K) back_C er h) fun vs H1 ⟨ds, ρ1, F1, own1, e1, s1, r1, h1⟩ => ?_⟩
    obtain ⟨as, g1, l1, q⟩ := wp_call1 e1 r1 (List.nodup_cons.mpr ⟨by simpa using hij, List.nodup_cons.mpr ⟨by simp, List.nodup_nil⟩⟩) rfl h1
    obtain ⟨b, q1, q2⟩ := g1 0 i rfl
    obtain ⟨b', q1', q2'⟩ := g1 1 j rfl
    rw [hs] at q2
    cases q2
    rw [hs'] at q2'
    cases q2'
    match as, l1, q1, q1', q with
    | [b1, b2], _, q1, q1', q => simp at q1 q1'; subst q1; subst q1'; exact q
end
end
end DL
/-! DL over the model, 7: statements. -/
namespace DL
open PySem PySem.Spec PyProof.Rows L2
section
variable {clsV : Nat → Value} {K : PySem.W.Frag} {F : Addr → Prop} {H : Hp} {own : Ow} {ρ : Env} {σ : St} {W : WX}
/-- what goes out of a frame: an own object is new, or was a name's own -/
def relR (K : PySem.W.Frag) (F' : Addr → Prop) (H : Hp) (own : Ow) (H' : Hp) (own' : Ow) (v : V) (c : Cell) : Prop := match c with
  | .fr d => RepD K F' H' v d
  | .ow d => ∃ a, v = .ref a ∧ (H a = none ∨ ∃ j, own j = some (a, false)) ∧ ¬ F' a ∧ (∀ i t, own' i ≠ some (a, t)) ∧ OwnR K F' H' a d
  | _ => False
theorem relR.of {F' : Addr → Prop} {H' : Hp} {own' : Ow} {v : V} {c : Cell} (r : relC K F' H H' own' σ v c) : relR K F' H own H' own' v c := by
  cases c with
  | ow d => obtain ⟨a, h1, h2, h3⟩ := r; exact ⟨a, h1, .inl h2, h3⟩
  | fr d => exact r
  | no => exact r
  | io d => exact r
theorem relR.back {F' F1 : Addr → Prop} {H' H1 : Hp} {own' o1 : Ow} {v : V} {c : Cell} (s : Stp F H own F1 H1 o1) (r : relR K F' H1 o1 H' own' v c) : relR K F' H own H' own' v c := by
  cases c with
  | ow d =>
    obtain ⟨a, h1, h2, h3⟩ := r
    refine ⟨a, h1, ?_, h3⟩
    rcases h2 with h2 | ⟨j, h2⟩
    · exact .inl (s.fresh h2)
    · rcases s.newO j a false h2 with q | ⟨q, _⟩
      · exact .inr ⟨j, q⟩
      · exact .inl q
  | fr d => exact r
  | no => exact r
  | io d => exact r
/-- what is wanted behind a statement -/
def endF (K : PySem.W.Frag) (F' : Addr → Prop) (H : Hp) (own : Ow) (H' : Hp) (own' : Ow) (σ' : St) (D : Ends) : Flow → Prop
  | .next => D.nx σ' H'
  | .brk => D.bk σ' H'
  | .cont => D.ct σ' H'
  | .ret c => ∀ v, relR K F' H own H' own' v c → D.rt v H'
def wpF (clsV : Nat → Value) (K : PySem.W.Frag) (W : WX) (m : Sem Flow) (ρ : Env) (F : Addr → Prop) (own : Ow) (σ : St) (H : Hp) (D : Ends) : Prop := match m ρ with
  | .ok f ρ' => ∀ σ' F' H' own', ER K F' H' own' ρ' σ' → Stp F H own F' H' own' → endF K F' H own H' own' σ' D f
  | .exc x ρ' => ∀ c d σ' F' H' own', ER K F' H' own' ρ' σ' → Stp F H own F' H' own' → ExR clsV K F' H' x c d → W c d σ' H'
  | .bad => False
def tF (clsV : Nat → Value) (K : PySem.W.Frag) (W : WX) (m : Sem Flow) : TS := fun D σ H => ∃ ρ F own, ER K F H own ρ σ ∧ wpF clsV K W m ρ F own σ H D
theorem endF.back {F' F1 : Addr → Prop} {H' H1 : Hp} {own' o1 : Ow} {σ' : St} {D : Ends} (s : Stp F H own F1 H1 o1) : ∀ {f : Flow}, endF K F' H own H' own' σ' D f → endF K F' H1 o1 H' own' σ' D f
  | .next, h => h
  | .brk, h => h
  | .cont, h => h
  | .ret c, h => fun v r => h v (r.back s)
/-- a later state wishes no less -/
theorem wpF.later {m : Sem Flow} {ρ' : Env} {σ1 : St} {F1 : Addr → Prop} {H1 : Hp} {o1 : Ow} {D : Ends} (s : Stp F H own F1 H1 o1)
    (h : match m ρ' with
      | .ok f ρ2 => ∀ σ' F' H' own', ER K F' H' own' ρ2 σ' → Stp F H own F' H' own' → endF K F' H own H' own' σ' D f
      | .exc x ρ2 => ∀ c d σ' F' H' own', ER K F' H' own' ρ2 σ' → Stp F H own F' H' own' → ExR clsV K F' H' x c d → W c d σ' H'
      | .bad => False) : wpF clsV K W m ρ' F1 o1 σ1 H1 D := by
  unfold wpF
  cases em : m ρ' with
  | ok f ρ2 => rw [em] at h; exact fun σ' F' H' own' er st => (h σ' F' H' own' er (s.trans st)).back s
  | exc x ρ2 => rw [em] at h; exact fun c d σ' F' H' own' er st r => h c d σ' F' H' own' er (s.trans st) r
  | bad => rw [em] at h; exact h
/-- an expression, then the rest -/
theorem wpF.bind {α β : Type} {Rel1 : RelT α β} {m : Sem α} {f : α → Sem Flow} {D : Ends} (e : ER K F H own ρ σ) (h : wpF clsV K W (bind' m f) ρ F own σ H D) :
    tG clsV K W Rel1 m σ H fun b H1 => ∃ a ρ1 F1 o1, ER K F1 H1 o1 ρ1 σ ∧ Stp F H own F1 H1 o1 ∧ Rel1 F1 H H1 o1 σ b a ∧ wpF clsV K W (f a) ρ1 F1 o1 σ H1 D := by
  refine ⟨ρ, F, own, e, ?_⟩
  unfold wpF bind' at h
  unfold wpS
  cases em : m ρ with
  | ok a ρ1 => rw [em] at h; exact fun b F1 H1 o1 er st r => ⟨a, ρ1, F1, o1, er, st, r, wpF.later st h⟩
  | exc x ρ1 => rw [em] at h; exact fun c d F' H' own' er st r => h c d σ F' H' own' er st r
  | bad => rw [em] at h; exact h
/-- a statement, then the rest -/
theorem wpF.seq {a b : Sem Flow} {D : Ends} (e : ER K F H own ρ σ) (h : wpF clsV K W (seq a b) ρ F own σ H D) : wpF clsV K W a ρ F own σ H { D with nx := tF clsV K W b D } := by
  unfold wpF DL.seq bind' at h
  unfold wpF
  cases em : a ρ with
  | ok f ρ1 =>
    rw [em] at h
    intro σ' F' H' own' er st
    cases f with
    | next => exact ⟨ρ1, F', own', er, wpF.later st h⟩
    | brk => exact h σ' F' H' own' er st
    | cont => exact h σ' F' H' own' er st
    | ret c => exact h σ' F' H' own' er st
  | exc x ρ1 => rw [em] at h; exact h
  | bad => rw [em] at h; exact h
theorem wpF.pure {f : Flow} {D : Ends} (e : ER K F H own ρ σ) (h : wpF clsV K W (pure' f) ρ F own σ H D) : endF K F H own H own σ D f := h σ F H own e Stp.refl
/-- the slots of a frame may be forgotten -/
theorem ER.free (e : ER K F H own ρ σ) {i : Nat} {c : Cell} {v : V} (hi : i < ρ.length) (hc : CellR K F H none c (some (some v))) : ER K F H (fun j => if j = i then none else own j) (ρ.set i c) (σ.set i (some v)) := by
  have hiσ : i < σ.length := by rw [← e.len]; exact hi
  refine ⟨by rw [List.length_set, List.length_set]; exact e.len, e.fdom, fun j c' h => ?_, fun j h => ?_, fun j k a t u h1 h2 => ?_, fun j a t h => ?_⟩
  · by_cases hj : j = i
    · subst hj
      rw [List.getElem?_set_self hi] at h
      cases h
      rw [if_pos rfl, List.getElem?_set_self hiσ]
      exact hc
    · rw [List.getElem?_set_ne (Ne.symm hj)] at h
      rw [if_neg hj, List.getElem?_set_ne (Ne.symm hj)]
      exact e.at_ j c' h
  · by_cases hj : j = i
    · rw [if_pos hj]
    · rw [if_neg hj]
      rw [List.getElem?_set_ne (Ne.symm hj)] at h
      exact e.out j h
  · by_cases hj : j = i
    · rw [if_pos hj] at h1; cases h1
    · by_cases hk : k = i
      · rw [if_pos hk] at h2; cases h2
      · rw [if_neg hj] at h1; rw [if_neg hk] at h2
        exact e.inj j k a t u h1 h2
  · by_cases hj : j = i
    · rw [if_pos hj] at h; cases h
    · rw [if_neg hj] at h; exact e.nf j a t h
/-- a new own object comes to a name -/
theorem ER.take (e : ER K F H own ρ σ) {i : Nat} {a : Addr} {d : D} (hi : i < ρ.length) (no : ∀ j t, own j ≠ some (a, t)) (nf : ¬ F a) (o : OwnR K F H a d) :
    ER K F H (fun j => if j = i then some (a, false) else own j) (ρ.set i (.ow d)) (σ.set i (some (.ref a))) := by
  have hiσ : i < σ.length := by rw [← e.len]; exact hi
  refine ⟨by rw [List.length_set, List.length_set]; exact e.len, e.fdom, fun j c' h => ?_, fun j h => ?_, fun j k b t u h1 h2 => ?_, fun j b t h => ?_⟩
  · by_cases hj : j = i
    · subst hj
      rw [List.getElem?_set_self hi] at h
      cases h
      rw [if_pos rfl, List.getElem?_set_self hiσ]
      exact ⟨a, rfl, rfl, o⟩
    · rw [List.getElem?_set_ne (Ne.symm hj)] at h
      rw [if_neg hj, List.getElem?_set_ne (Ne.symm hj)]
      exact e.at_ j c' h
  · by_cases hj : j = i
    · subst hj
      rw [List.getElem?_eq_none_iff, List.length_set] at h
      omega
    · rw [if_neg hj]
      rw [List.getElem?_set_ne (Ne.symm hj)] at h
      exact e.out j h
  · by_cases hj : j = i
    · rw [if_pos hj] at h1; cases h1
      by_cases hk : k = i
      · exact hj.trans hk.symm
      · rw [if_neg hk] at h2; exact (no k u h2).elim
    · rw [if_neg hj] at h1
      by_cases hk : k = i
      · rw [if_pos hk] at h2; cases h2; exact (no j t h1).elim
      · rw [if_neg hk] at h2; exact e.inj j k b t u h1 h2
  · by_cases hj : j = i
    · rw [if_pos hj] at h; cases h; exact nf
    · rw [if_neg hj] at h; exact e.nf j b t h
theorem Stp.drop {F1 : Addr → Prop} {H1 : Hp} {o1 : Ow} {i : Nat} (s : Stp F H own F1 H1 o1) : Stp F H own F1 H1 (fun j => if j = i then none else o1 j) := by
  refine ⟨s.mono, s.rd, s.keep, s.newF, fun j a t h => ?_, s.dom⟩
  by_cases hj : j = i
  · rw [if_pos hj] at h; cases h
  · rw [if_neg hj] at h; exact s.newO j a t h
theorem Stp.take {F1 : Addr → Prop} {H1 : Hp} {o1 : Ow} {i : Nat} {a : Addr} (s : Stp F H own F1 H1 o1) (ha : H a = none) : Stp F H own F1 H1 (fun j => if j = i then some (a, false) else o1 j) := by
  refine ⟨s.mono, s.rd, s.keep, s.newF, fun j b t h => ?_, s.dom⟩
  by_cases hj : j = i
  · rw [if_pos hj] at h; cases h; exact .inr ⟨ha, rfl⟩
  · rw [if_neg hj] at h; exact s.newO j b t h
/-- a value comes to a name: from H0 on -/
theorem ER.put {H0 : Hp} {F0 : Addr → Prop} {own0 : Ow} (e : ER K F H own ρ σ) (s : Stp F0 H0 own0 F H own) {i : Nat} {c : Cell} {v : V} {ρ' : Env} (r : relC K F H0 H own σ v c) (h : put i c ρ = some ρ') :
    ∃ own', ER K F H own' ρ' (σ.set i (some v)) ∧ Stp F0 H0 own0 F H own' := by
  unfold DL.put at h
  cases hc : ρ[i]? with
  | none => rw [hc] at h; cases c <;> cases h
  | some c0 =>
    have hi := (List.getElem?_eq_some_iff.mp hc).1
    rw [hc] at h
    cases c with
    | no => exact r.elim
    | io d => exact r.elim
    | fr d =>
      have h' : some (ρ.set i (.fr d)) = some ρ' := by cases c0 <;> first | exact h | cases h
      cases h'
      exact ⟨_, e.free hi ⟨rfl, v, rfl, r⟩, s.drop⟩
    | ow d =>
      have h' : some (ρ.set i (.ow d)) = some ρ' := by cases c0 <;> first | exact h | cases h
      cases h'
      obtain ⟨a, rfl, h0, nf, no, o⟩ := r
      exact ⟨_, e.take hi no nf o, s.take h0⟩
end
section
variable {clsV : Nat → Value} {K : PySem.W.Frag} {F : Addr → Prop} {H : Hp} {own : Ow} {ρ : Env} {σ : St} {W : WX}
/-- a value, stored -/
theorem wpF.store {i : Nat} {mc : Sem Cell} {D : Ends} (er : ER K F H own ρ σ) (h : wpF clsV K W (sSet i mc) ρ F own σ H D) : tG clsV K W (relC K) mc σ H fun v H1 => D.nx (σ.set i (some v)) H1 := by
  refine ⟨ρ, F, own, er, ?_⟩
  unfold wpF sSet bind' putS at h
  unfold wpS
  cases em : mc ρ with
  | bad => rw [em] at h; exact h
  | exc x ρ1 => rw [em] at h; exact fun c d F' H' own' er st r => h c d σ F' H' own' er st r
  | ok c ρ1 =>
    rw [em] at h
    intro v F1 H1 o1 e1 st r
    cases hp : put i c ρ1 with
    | none => simp only [hp] at h
    | some ρ2 =>
      simp only [hp] at h
      obtain ⟨own', e', s'⟩ := e1.put st r hp
      exact h _ F1 H1 own' e' s'
theorem wpF.rdO {f : DL.D → Sem Flow} {D : Ends} {x : Opd} {v : V} {H1 : Hp} {o1 : Ow} (e : ER K F H own ρ σ) (r : relO K F H1 H o1 σ v x) (h : wpF clsV K W (bind' (DL.rdO x) f) ρ F own σ H D) :
    ∃ d, RdR K F H v d ∧ wpF clsV K W (f d) ρ F own σ H D := by
  unfold wpF bind' DL.rdO at h
  cases eo : getO ρ x with
  | none => simp only [eo] at h
  | some d =>
    simp only [eo] at h
    refine ⟨d, ?_, h⟩
    cases x with
    | val d' => cases eo; exact .inl r
    | slot i =>
      obtain ⟨v', hv, q⟩ := e.rd (i := i) eo
      have r' : σ[i]? = some (some v) := r
      rw [hv] at r'
      cases r'
      exact q
theorem wpF.optB {α : Type} {o : Option α} {f : α → Sem Flow} {D : Ends} (h : wpF clsV K W (bind' (DL.opt o) f) ρ F own σ H D) :
    ∃ a, o = some a ∧ wpF clsV K W (f a) ρ F own σ H D := by
  unfold wpF bind' DL.opt at h
  cases o with
  | none => exact h.elim
  | some a => exact ⟨a, rfl, h⟩
theorem wpF.oVar {i : Nat} {f : Opd → Sem Flow} {D : Ends} (e : ER K F H own ρ σ) (h : wpF clsV K W (bind' (DL.oVar i) f) ρ F own σ H D) :
    ∃ v, σ[i]? = some (some v) ∧ wpF clsV K W (f (.slot i)) ρ F own σ H D := by
  unfold wpF bind' DL.oVar at h
  cases hd : (ρ[i]?).bind Cell.dat with
  | none => simp only [hd] at h
  | some d =>
    obtain ⟨v, hv, r⟩ := e.rd hd
    simp only [hd] at h
    exact ⟨v, hv, h⟩
/-- x op= e -/
theorem aug_of {i : Nat} {op : BOp} {mb : Sem Opd} {En : Ends} {r : R2} (hk : ∀ (F : Addr → Prop) (H2 : Hp) (v w : V) (d e : D) (z : D) (Q : VK), RdR K F H2 v d → RdR K F H2 w e → aug op d e = some (.fr z) → (∀ u, RepD K F H2 u z → Q u H2) → r v w H2 Q)
    (er : ER K F H own ρ σ) (h : wpF clsV K W (sAug i op mb) ρ F own σ H En) : tAug i (tG clsV K W (relO K) mb) r En σ H := by
  obtain ⟨v, hv, h⟩ := h.oVar er
  refine ⟨v, hv, tG.mono (wpF.bind (Rel1 := relO K) er h) fun w H1 ⟨y, ρ1, F1, own1, e1, s1, r1, h1⟩ => ?_⟩
  obtain ⟨d, rd, h2⟩ := wpF.rdO (H1 := H) (o1 := own) (v := v) (x := .slot i) e1 hv h1
  obtain ⟨d2, rd2, h3⟩ := wpF.rdO e1 r1 h2
  obtain ⟨c, hc, h4⟩ := h3.optB
  have hz : ∃ z, c = .fr z := by
    unfold aug at hc
    split at hc
    · split at hc
      · cases hc; exact ⟨_, rfl⟩
      · cases hc
    · cases hc
  obtain ⟨z, rfl⟩ := hz
  refine hk F1 H1 v w d d2 z _ rd rd2 hc fun u ru => ?_
  unfold wpF putS at h4
  cases hp : put i (.fr z) ρ1 with
  | none => simp only [hp] at h4
  | some ρ2 =>
    simp only [hp] at h4
    obtain ⟨own', e', s'⟩ := e1.put (H0 := H1) (c := .fr z) Stp.refl ru hp
    exact h4 _ F1 H1 own' e' s'
end
section
variable {clsV : Nat → Value} {X : Cx} {W : WX} {a b c e tg : Expr} {es : List Expr} {st : Stmt} {sts body orelse : List Stmt} {pos : Pos} {ma mb mc : Sem Opd} {m m1 m2 : Sem Flow}
abbrev SF (clsV : Nat → Value) (W : WX) (X : Cx) (s : Stmt) (m : Sem Flow) : Prop := PS X s (tF clsV X.K W m)
abbrev SFs (clsV : Nat → Value) (W : WX) (X : Cx) (s : List Stmt) (m : Sem Flow) : Prop := PSs X s (tF clsV X.K W m)
theorem wpF.tF {K : PySem.W.Frag} {F : Addr → Prop} {H : Hp} {own : Ow} {ρ : Env} {σ : St} {D : Ends} (e : ER K F H own ρ σ) (h : wpF clsV K W m ρ F own σ H D) : tF clsV K W m D σ H := ⟨ρ, F, own, e, h⟩
theorem s_nil : SFs clsV W X [] skip := PSs.imp pss_nil fun D σ H ⟨ρ, F, own, e, h⟩ => h.pure e
theorem s_cons (h1 : SF clsV W X st m1) (h2 : SFs clsV W X sts m2) : SFs clsV W X (st :: sts) (seq m1 m2) := PSs.imp (pss_cons h1 h2) fun D σ H ⟨ρ, F, own, e, h⟩ => ⟨ρ, F, own, e, h.seq e⟩
theorem s_one (h1 : SF clsV W X st m1) : SFs clsV W X [st] m1 := pss_one h1
theorem s_pass : SF clsV W X (.Pass pos) skip := PS.imp ps_pass fun D σ H ⟨ρ, F, own, e, h⟩ => h.pure e
theorem s_brk : SF clsV W X (.Break pos) sBrk := PS.imp ps_break fun D σ H ⟨ρ, F, own, e, h⟩ => h σ F H own e Stp.refl
theorem s_cont : SF clsV W X (.Continue pos) sCont := PS.imp ps_continue fun D σ H ⟨ρ, F, own, e, h⟩ => h σ F H own e Stp.refl
theorem s_expr {mc : Sem Cell} (he : EC clsV W X e mc) (hs : swapsWith e none pos.line X.env = pure false := by rfl) : SF clsV W X (.Expr e pos) (sDrop mc) :=
  PS.imp (ps_expr he hs) fun D σ H ⟨ρ, F, own, er, h⟩ => tG.mono (h.bind (Rel1 := relC X.K) er) fun v H1 ⟨c, ρ1, F1, own1, e1, s1, r1, h1⟩ => h1.pure e1
theorem s_ret {mc : Sem Cell} (he : EC clsV W X e mc) : SF clsV W X (.Return (some e) pos) (sRet mc) :=
  PS.imp (ps_ret he) fun D σ H ⟨ρ, F, own, er, h⟩ => by
    refine ⟨ρ, F, own, er, ?_⟩
    unfold wpF sRet bind' pure' at h
    unfold wpS
    cases em : mc ρ with
    | ok c ρ1 => rw [em] at h; exact fun v F1 H1 o1 e1 st r => h σ F1 H1 o1 e1 st v (relR.of r)
    | exc x ρ1 => rw [em] at h; exact fun c d F' H' own' er st r => h c d σ F' H' own' er st r
    | bad => rw [em] at h; exact h
theorem s_retN : SF clsV W X (.Return none pos) sRetN := PS.imp ps_retN fun D σ H ⟨ρ, F, own, er, h⟩ => h σ F H own er Stp.refl .non .non
/-- return x -/
theorem s_retV {i : Nat} {x : Str} {p : Pos} (hN : X.N[i]? = some x) (hv : Vis X.env.scope x) (hd : (x == ("__debug__" : Str)) = false := by decide) (hcd : (x == ("__classdict__" : Str)) = false := by decide) : SF clsV W X (.Return (some (.Name x p)) pos) (sRetVar i) :=
  PS.imp (ps_ret (pe_var hN hv hd hcd)) fun D σ H ⟨ρ, F, own, e, h⟩ => by
    unfold wpF sRetVar at h
    cases hc : ρ[i]? with
    | none => rw [hc] at h; exact h.elim
    | some c =>
      rw [hc] at h
      have q := e.at_ i c hc
      cases c with
      | no => exact h.elim
      | io d => exact h.elim
      | fr d =>
        obtain ⟨_, u, hu, r⟩ := q
        exact ⟨u, hu, h σ F H own e Stp.refl u r⟩
      | ow d =>
        obtain ⟨a, ha, hu, o⟩ := q
        refine ⟨_, hu, h σ F H (fun j => if j = i then none else own j) (e.set (fun _ f => f) e.fdom (fun j b t hj hb => e.nf j b t hb) rfl) Stp.refl.drop (.ref a) ⟨a, rfl, .inr ⟨i, ha⟩, e.nf i a false ha, fun j t z => ?_, o⟩⟩
        dsimp only at z
        by_cases hj : j = i
        · rw [if_pos hj] at z; cases z
        · rw [if_neg hj] at z; exact hj (e.inj j i a t false z ha)
theorem s_if {tA : Sem Bool} (hc : ET clsV W X c tA) (ha : SFs clsV W X body m1) (hb : SFs clsV W X orelse m2) : SF clsV W X (.If c body orelse pos) (sIf tA m1 m2) :=
  PS.imp (ps_if hc ha hb) fun D σ H ⟨ρ, F, own, er, h⟩ => tG.mono (h.bind (Rel1 := relE) er) fun k H1 ⟨k', ρ1, F1, own1, e1, s1, r1, h1⟩ => by
    cases r1
    cases k with
    | true => rw [if_pos rfl]; exact h1.tF e1
    | false => rw [if_neg Bool.false_ne_true]; exact h1.tF e1
/-- name = value -/
theorem s_set {i : Nat} {x : Str} {mc : Sem Cell} {p : Pos} (hN : X.N.Nodup) (hi : X.N[i]? = some x) (hx : Loc X.env.scope x) (he : EC clsV W X e mc) (hs : swapsWith e (some (.Name x p)) pos.line X.env = pure false := by rfl) (hf : X.fn x = true ∨ X.env.scope.names.lookup x = some .local := by first | exact .inl rfl | exact .inr rfl | assumption) :
    SF clsV W X (.Assign [.Name x p] e pos) (sSet i mc) :=
  PS.imp (ps_set hN hi hx he hs hf) fun D σ H ⟨ρ, F, own, er, h⟩ => h.store er
/-- x op= e -/
def augR : R2 := fun x y H Q => (rI0 (fun i j => .int (i + j)) x y H Q ∨ (∃ i j, x = .str i ∧ y = .str j ∧ i.length + j.length ≤ sizeLine ∧ Q (.str (i ++ j)) H))
theorem s_augAdd {i : Nat} {x : Str} {p : Pos} (hN : X.N.Nodup) (hi : X.N[i]? = some x) (hx : Loc X.env.scope x) (he : EO clsV W X e mb) (hf : X.fn x = true ∨ X.env.scope.names.lookup x = some .local := by first | exact .inl rfl | exact .inr rfl | assumption) :
    SF clsV W X (.AugAssign (.Name x p) .Add e pos) (sAug i .add mb) :=
  PS.imp (ps_aug hN hi hx he (iop_add.or iop_add_str : OpR X (inplaceOp .Add) augR) hf) fun En σ H ⟨ρ, F, own, er, h⟩ => aug_of (r := augR) (fun F H v w d e z Q r1 r2 hf k => by
    have lim := lim_eq
    unfold aug at hf
    cases d <;> cases e <;> simp only [binop, D.flat, if_true, Option.some.injEq, reduceCtorEq, Cell.fr.injEq, Bool.false_eq_true, if_false] at hf
    · rw [r1.int, r2.int]
      subst hf
      exact .inl ⟨_, _, rfl, rfl, k _ (.int _)⟩
    · split at hf
      · rename_i q
        simp only [Option.ite_none_right_eq_some, Option.some.injEq, Cell.fr.injEq] at q hf
        obtain ⟨hl, rfl⟩ := q
        subst hf
        rw [r1.str, r2.str]
        refine .inr ⟨_, _, rfl, rfl, by rw [mkS_len, mkS_len, ← lim]; exact hl, ?_⟩
        rw [mkS_append]
        exact k _ (.str _)
      · cases hf) er h
theorem s_augSub {i : Nat} {x : Str} {p : Pos} (hN : X.N.Nodup) (hi : X.N[i]? = some x) (hx : Loc X.env.scope x) (he : EO clsV W X e mb) (hf : X.fn x = true ∨ X.env.scope.names.lookup x = some .local := by first | exact .inl rfl | exact .inr rfl | assumption) :
    SF clsV W X (.AugAssign (.Name x p) .Sub e pos) (sAug i .sub mb) :=
  PS.imp (ps_aug hN hi hx he ip_sub hf) fun En σ H ⟨ρ, F, own, er, h⟩ => aug_of (r := ipI fun i j => i - j) (fun F H v w d e z Q r1 r2 hf k => by
    unfold aug at hf
    cases d <;> cases e <;> simp only [binop, D.flat, if_true, Option.some.injEq, reduceCtorEq, Cell.fr.injEq, Bool.false_eq_true, if_false] at hf
    rw [r1.int, r2.int]
    subst hf
    exact ⟨_, _, rfl, rfl, k _ (.int _)⟩) er h

/-! ### targets -/
mutual
/-- the names of a target -/
def names : Tgt → List Nat
  | .name i => [i]
  | .tup ts => namesL ts
def namesL : List Tgt → List Nat
  | [] => []
  | t :: ts => names t ++ namesL ts
end
/-- no other name is touched -/
def Else (ns : List Nat) (σ σ' : St) : Prop := σ'.length = σ.length ∧ ∀ i, i ∉ ns → σ'[i]? = σ[i]?
theorem Else.refl {ns : List Nat} {σ : St} : Else ns σ σ := ⟨rfl, fun _ _ => rfl⟩
def gS (K : PySem.W.Frag) (t : Tgt) : TG := fun v σ H Q => ∃ ρ F own d ρ', ER K F H own ρ σ ∧ RepD K F H v d ∧ store t d ρ = some ρ' ∧ ∀ σ' own', ER K F H own' ρ' σ' → Stp F H own F H own' → Else (names t) σ σ' → Q σ' H
def gSs (K : PySem.W.Frag) (ts : List Tgt) : TGs := fun vs σ H Q => ∃ ρ F own ds ρ', ER K F H own ρ σ ∧ RepL K F H vs ds ∧ ts.length = ds.length ∧ storeL ts ds ρ = some ρ' ∧ ∀ σ' own', ER K F H own' ρ' σ' → Stp F H own F H own' → Else (namesL ts) σ σ' → Q σ' H
theorem g_name {i : Nat} {x : Str} (hN : X.N.Nodup) (hi : X.N[i]? = some x) (hx : Loc X.env.scope x) (hf : X.fn x = true ∨ X.env.scope.names.lookup x = some .local := by first | exact .inl rfl | exact .inr rfl | assumption) : PG X (.Name x pos) (gS X.K (.name i)) :=
  ⟨fun pins s σ H v u Q I r ⟨ρ, F, own, d, ρ', er, rd, hs, k⟩ => (pg_name (pos := pos) hN hi hx hf).run pins s σ H v u Q I r (by
    obtain ⟨own', e', s'⟩ := er.put (H0 := H) (c := .fr d) Stp.refl rd hs
    exact k _ own' e' s' ⟨List.length_set, fun j hj => List.getElem?_set_ne (fun z => hj (by rw [names, z]; exact List.mem_singleton.mpr rfl))⟩)⟩
theorem gs_nil : PGs X [] (gSs X.K []) :=
  ⟨fun pins s σ H vs us Q I r ⟨ρ, F, own, ds, ρ', er, rd, hl, hs, k⟩ => pgs_nil.run pins s σ H vs us Q I r (by
    cases ds with
    | nil => cases rd; cases hs; exact ⟨rfl, k σ own er Stp.refl Else.refl⟩
    | cons d ds => cases hl)⟩
theorem gs_cons {t : Tgt} {ts : List Tgt} (h1 : PG X e (gS X.K t)) (h2 : PGs X es (gSs X.K ts)) (hs : (assignEach (e :: es) X.env).map (·.2) = assign e X.env :: (assignEach es X.env).map (·.2) := by rfl) : PGs X (e :: es) (gSs X.K (t :: ts)) :=
  ⟨fun pins s σ H vs us Q I r ⟨ρ, F, own, ds, ρ', er, rd, hl, hst, k⟩ => (pgs_cons h1 h2 hs).run pins s σ H vs us Q I r (by
    cases ds with
    | nil => cases hl
    | cons d ds =>
      cases rd with
      | cons r1 r2 =>
        unfold storeL at hst
        cases h1 : store t d ρ with
        | none => rw [h1] at hst; cases hst
        | some ρ1 =>
          rw [h1] at hst
          exact ⟨_, _, rfl, ρ, F, own, d, ρ1, er, r1, h1, fun σ1 own1 e1 s1 l1 => ⟨ρ1, F, own1, ds, ρ', e1, r2, by simpa using hl, hst, fun σ2 own2 e2 s2 l2 => k σ2 own2 e2 (s1.trans s2) ⟨l2.1.trans l1.1, fun j hj => (l2.2 j fun z => hj (by rw [namesL]; exact List.mem_append_right _ z)).trans (l1.2 j fun z => hj (by rw [namesL]; exact List.mem_append_left _ z))⟩⟩⟩)⟩
theorem g_tup {n : Nat} {ts : List Tgt} (hc : X.calm = true) (h : PGs X es (gSs X.K ts)) (hn : (assignEach es X.env).length = ts.length := by rfl) (hst : (assignEach es X.env).findIdx? (·.1) = none := by rfl) : PG X (.Tuple es n pos) (gS X.K (.tup ts)) :=
  ⟨fun pins s σ H v u Q I r ⟨ρ, F, own, d, ρ', er, rd, hs, k⟩ => (pg_tup (pos := pos) (n := ts.length) hc h hn hst).run pins s σ H v u Q I r (by
    cases d <;> simp only [store, reduceCtorEq, Option.ite_none_right_eq_some] at hs
    obtain ⟨hl, hs⟩ := hs
    obtain ⟨a, vs, rfl, ha, ra⟩ := RdR.tup (.inl rd)
    exact ⟨a, vs, rfl, ha, ra.length.trans hl.symm, ρ, F, own, _, ρ', er, ra, hl, hs, fun σ' own' e' s' l => k σ' own' e' s' (by rw [names]; exact l)⟩)⟩
theorem s_asg {t : Tgt} {m : Sem D} (he : ED clsV W X e m) (hg : PG X tg (gS X.K t)) (hs : swapsWithSole [tg] e pos.line X.env = pure false := by rfl) (hw : swappedStores [tg] e X.env = pure none := by rfl)
    (h1 : (assignEach [tg] X.env).map (·.2) = [assign tg X.env] := by rfl) : SF clsV W X (.Assign [tg] e pos) (sAsg t m) :=
  PS.imp (ps_asg he hg hs hw h1) fun D σ H ⟨ρ, F, own, er, h⟩ => tG.mono (h.bind (Rel1 := relD X.K) er) fun v H1 ⟨d, ρ1, F1, own1, e1, s1, r1, h1⟩ => by
    unfold wpF storeS at h1
    cases hs : store t d ρ1 with
    | none => rw [hs] at h1; exact h1.elim
    | some ρ2 => rw [hs] at h1; exact ⟨ρ1, F1, own1, d, ρ2, e1, r1, hs, fun σ' own' e' s' _ => h1 σ' F1 H1 own' e' s'⟩
end
end DL
/-! DL over the model, 8: stores by place, dicts, loops. -/
namespace DL
open PySem PySem.Spec PyProof.Rows L2
section
variable {X : Cx} {pins : List (Addr × Obj)} {σ : St} {H : Hp} {s : Shared} {a : Addr}
theorem Inv_rekT (I : L2.Inv X pins σ H s) (h : H a = some (.dK [])) : L2.Inv X pins σ (upd H a (.dT [])) s := by
  obtain ⟨hd, o, es, ep, h1, h2, h3, h4, h5, h6⟩ := dk_empty_H I (.inl h)
  exact I.write (t' := s.toks) (h' := s.heap) (by rw [h]; exact True.intro) (.inl rfl) (fun _ _ _ q => q) ⟨o, h1⟩ ⟨Nat.zero_le _, hd, [], .nil, o, es, ep, h1, h2, h3, h4, h6⟩
theorem Inv_rekK (I : L2.Inv X pins σ H s) (h : H a = some (.dT [])) : L2.Inv X pins σ (upd H a (.dK [])) s := by
  obtain ⟨hd, dd⟩ := dt_empty_K I (.inl h)
  obtain ⟨o, es, ep, h1, h2⟩ := id dd
  exact I.write (t' := s.toks) (h' := s.heap) (by rw [h]; exact True.intro) (.inl rfl) (fun _ _ _ q => q) ⟨o, h1⟩ ⟨Nat.zero_le _, hd, [], .nil, dd⟩
/-- d[k] = v, by values; an empty dict takes keys of either kind -/
def rSetG : TSet := fun o y v H Q => ∃ a, o = .ref a ∧ ((∃ kvs k, H a = some (.dK kvs) ∧ y = kV k ∧ kvs.length < sizeLine ∧ Q (upd H a (.dK (putK kvs k v)))) ∨
  (∃ kvs k b, H a = some (.dT kvs) ∧ y = .ref b ∧ H b = some (.tup (k.map kV)) ∧ kvs.length < sizeLine ∧ Q (upd H a (.dT (putK kvs k v)))) ∨
  (∃ (k : List Key) (b : Addr), H a = some (.dK []) ∧ y = .ref b ∧ H b = some (.tup (k.map kV)) ∧ Q (upd H a (.dT [(k, v)]))) ∨ (∃ k : Key, H a = some (.dT []) ∧ y = kV k ∧ Q (upd H a (.dK [(k, v)]))))
theorem setG_ok (hu : X.A.units + 1 < cLine) : PSet X rSetG := by
  intro pins s σ H o y v ov iv u Q I ro ry rv h
  obtain ⟨a, rfl, h⟩ := h
  cases ro
  have z0 : (0 : Nat) < sizeLine := by rw [sizeLine_eq]; decide
  rcases h with ⟨kvs, k, e, ey, l, q⟩ | ⟨kvs, k, b, e, ey, eb, l, q⟩ | ⟨k, b, e, ey, eb, q⟩ | ⟨k, e, ey, q⟩
  · exact d_setItem hu I (.inl ⟨kvs, k, e, ey, l, rfl⟩) ry rv fun s' I' => ⟨_, I', q⟩
  · exact d_setItem hu I (.inr ⟨kvs, k, b, e, ey, eb, l, rfl⟩) ry rv fun s' I' => ⟨_, I', q⟩
  · have nb : b ≠ a := ne_of eb e (by intro z; cases z)
    refine d_setItem hu (Inv_rekT I e) (.inr ⟨[], k, b, upd_same, ey, by rw [upd_ne nb]; exact eb, z0, rfl⟩) ry rv fun s' I' => ⟨_, I', ?_⟩
    rw [upd_upd]; exact q
  · refine d_setItem hu (Inv_rekK I e) (.inl ⟨[], k, upd_same, ey, z0, rfl⟩) ry rv fun s' I' => ⟨_, I', ?_⟩
    rw [upd_upd]; exact q
theorem PSet_or {t t' : TSet} (h : PSet X t) (h' : PSet X t') : PSet X (fun o i v H Q => t o i v H Q ∨ t' o i v H Q) := by
  intro pins s σ H o y v ov iv u Q I ro ry rv q
  rcases q with q | q
  · exact h pins s σ H o y v ov iv u Q I ro ry rv q
  · exact h' pins s σ H o y v ov iv u Q I ro ry rv q
end
section
variable {K : PySem.W.Frag} {F : Addr → Prop} {H : Hp}
theorem dput_any {κ : Type} [DecidableEq κ] {g : κ → D} (hg : ∀ a b, g a = g b → a = b) (k : κ) : ∀ {kvs : List (κ × V)} {qs : List (D × D)}, RepP K F H (kvs.map fun p => (g p.1, p.2)) qs → (qs.any fun p => decide (p.1 = g k)) = (kvs.any fun p => decide (p.1 = k))
  | [], _, r => by rw [List.map_nil] at r; cases r; rfl
  | p :: kvs, _, r => by
    rw [List.map_cons] at r
    cases r with
    | cons a t =>
      rw [List.any_cons, List.any_cons, dput_any hg k t]
      congr 1
      by_cases e : p.1 = k
      · rw [decide_eq_true e, decide_eq_true (by rw [e])]
      · rw [decide_eq_false e, decide_eq_false (fun z => e (hg _ _ z))]
theorem dput_rep {κ : Type} [DecidableEq κ] {g : κ → D} (hg : ∀ a b, g a = g b → a = b) (k : κ) {v : V} {d : D} (rv : RepD K F H v d) : ∀ {kvs : List (κ × V)} {qs : List (D × D)}, RepP K F H (kvs.map fun p => (g p.1, p.2)) qs →
    RepP K F H ((kvs.map fun p => if p.1 = k then (p.1, v) else p).map fun p => (g p.1, p.2)) (qs.map fun p => if p.1 = g k then (p.1, d) else p)
  | [], _, r => by rw [List.map_nil] at r; cases r; exact .nil
  | p :: kvs, _, r => by
    rw [List.map_cons] at r
    cases r with
    | cons a t =>
      rw [List.map_cons, List.map_cons, List.map_cons]
      by_cases e : p.1 = k
      · rw [if_pos e, if_pos (by rw [e])]; exact .cons rv (dput_rep hg k rv t)
      · rw [if_neg e, if_neg (fun z => e (hg _ _ z))]; exact .cons a (dput_rep hg k rv t)
theorem RepP.snoc {k : D} {v : V} {d : D} (rv : RepD K F H v d) : ∀ {ps : List (D × V)} {qs : List (D × D)}, RepP K F H ps qs → RepP K F H (ps ++ [(k, v)]) (qs ++ [(k, d)])
  | _, _, .nil => .cons rv .nil
  | _, _, .cons a t => .cons a (RepP.snoc rv t)
theorem dput_ok {κ : Type} [DecidableEq κ] {g : κ → D} (hg : ∀ a b, g a = g b → a = b) (k : κ) {v : V} {d : D} (rv : RepD K F H v d) {kvs : List (κ × V)} {qs : List (D × D)} (r : RepP K F H (kvs.map fun p => (g p.1, p.2)) qs) :
    RepP K F H ((putK kvs k v).map fun p => (g p.1, p.2)) (dput qs (g k) d) := by
  unfold putK dput
  rw [dput_any hg k r]
  by_cases h : (kvs.any fun p => decide (p.1 = k)) = true
  · rw [if_pos h, if_pos h]; exact dput_rep hg k rv r
  · rw [if_neg h, if_neg h, List.map_append]; exact r.snoc rv
end
section
variable {clsV : Nat → Value} {X : Cx} {W : WX} {a b c e tg : Expr} {es : List Expr} {st : Stmt} {sts body orelse : List Stmt} {pos : Pos} {ma mb mc : Sem Opd} {m m1 m2 : Sem Flow}
theorem wpF.change {K : PySem.W.Frag} {F : Addr → Prop} {H : Hp} {own : Ow} {ρ : Env} {σ : St} {β : Type} {i : Nat} {f : D → Option (β × D)} {k : β → Sem Flow} {En : Ends} (e : ER K F H own ρ σ) (h : wpF clsV K W (bind' (DL.change i f) k) ρ F own σ H En) :
    ∃ a t d c d', own i = some (a, t) ∧ σ[i]? = some (some (.ref a)) ∧ OwnR K F H a d ∧ f d = some (c, d') ∧ ∀ u, OwnR K F (upd H a u) a d' → ER K F (upd H a u) own (redo ρ i d') σ ∧ wpF clsV K W (k c) (redo ρ i d') F own σ (upd H a u) En := by
  have h' := h
  unfold wpF bind' DL.change at h'
  cases h1 : lent1 ρ i with
  | none => simp only [h1] at h'
  | some d =>
    cases h2 : f d with
    | none => simp only [h1, h2] at h'
    | some q =>
      obtain ⟨c, d'⟩ := q
      simp only [h1, h2] at h'
      obtain ⟨a, t, o1, o2, o3, o4⟩ := e.lent h1
      refine ⟨a, t, d, c, d', o1, o2, o3, h2, fun u ou => ?_⟩
      obtain ⟨e', s'⟩ := e.change o1 o4 o3 ou
      exact ⟨e', wpF.later s' h'⟩
theorem setItem_of {k e d d' : D} {u : Unit} (h : setItem k e d = some (u, d')) : (∃ xs i j, d = .lst xs ∧ k = .int i ∧ ixN xs.length i = some j ∧ d' = .lst (xs.set j e)) ∨ ∃ kvs, d = .dic kvs ∧ askable kvs k = true ∧ kvs.length < LIM ∧ d' = .dic (dput kvs k e) := by
  cases d with
  | lst xs =>
    cases k <;> simp only [setItem, reduceCtorEq, Option.map_eq_some_iff, Prod.mk.injEq] at h
    obtain ⟨j, h1, _, rfl⟩ := h
    exact .inl ⟨xs, _, j, rfl, rfl, h1, rfl⟩
  | dic kvs =>
    have h' : (if askable kvs k && decide (kvs.length < LIM) then some ((), D.dic (dput kvs k e)) else none) = some (u, d') := by simpa [setItem] using h
    simp only [Option.ite_none_right_eq_some, Bool.and_eq_true, decide_eq_true_eq, Option.some.injEq, Prod.mk.injEq] at h'
    obtain ⟨⟨h1, h2⟩, _, rfl⟩ := h'
    exact .inr ⟨kvs, rfl, h1, h2, rfl⟩
  | _ => simp [setItem] at h
def setR : TSet := fun o i v H Q => rSetL o i v H Q ∨ rSetG o i v H Q
theorem setR_ok {X : Cx} (hu : X.A.units + 64 < cLine) : PSet X setR := PSet_or set_list (setG_ok (by omega))
/-- what is wanted of a store by place -/
theorem setR_of {K : PySem.W.Frag} {F : Addr → Prop} {H : Hp} {a : Addr} {d d' kd ed : D} {kv v : V} {u : Unit} {Q : Hp → Prop} (o : OwnR K F H a d) (nf : ¬ F a) (rk : RepD K F H kv kd) (rv : RepD K F H v ed) (h : setItem kd ed d = some (u, d'))
    (k : ∀ w, OwnR K F (upd H a w) a d' → Q (upd H a w)) : setR (.ref a) kv v H Q := by
  have kp : ∀ w, Keep F H (upd H a w) := fun w b f => .inl (upd_ne fun z => nf (z ▸ f))
  have lim := lim_eq
  rcases setItem_of h with ⟨xs, i, j, rfl, rfl, hj, rfl⟩ | ⟨kvs, rfl, ok, hl, rfl⟩
  · cases rk
    cases o with
    | @lst ws _ hw rw' =>
      refine .inl ⟨a, ws, i, j, rfl, rfl, hw, by rw [rw'.length]; exact hj, k _ (.lst upd_same ((rw'.mono (fun _ f => f) (kp _)).set j (rv.mono (fun _ f => f) (kp _))))⟩
  · unfold askable at ok
    rw [Bool.or_eq_true, Bool.and_eq_true, Bool.and_eq_true] at ok
    refine .inr ⟨a, rfl, ?_⟩
    have one : ∀ w : HO, RepD K F (upd H a w) v ed := fun w => rv.mono (fun _ f => f) (kp w)
    rcases ok with ⟨h1, h2⟩ | ⟨h1, h2⟩
    · obtain ⟨kk, rfl⟩ := key1_of h1
      have ev := rk.key
      subst ev
      cases o with
      | @dk ps _ hp rp =>
        have hlen := rp.length
        rw [List.length_map] at hlen
        exact .inl ⟨ps, kk, hp, rfl, by omega, k _ (.dk upd_same (dput_ok (fun _ _ => keyD_inj) kk (one _) (rp.mono (fun _ f => f) (kp _))))⟩
      | @dt ps _ hp rp =>
        cases ps with
        | nil =>
          rw [List.map_nil] at rp
          cases rp
          exact .inr (.inr (.inr ⟨kk, hp, rfl, k _ (.dk upd_same (.cons (one _) .nil))⟩))
        | cons p ps =>
          cases kvs with
          | nil => cases rp
          | cons q qs =>
            have hk := rp.keys1
            rw [List.all_cons, Bool.and_eq_true] at h2
            rw [List.map_cons, List.map_cons, List.map_cons] at hk
            injection hk with hk1 _
            have z := h2.1
            rw [← show (D.tup (p.1.map keyD)) = q.1 from hk1, keyT_not_1] at z
            cases z
    · obtain ⟨ks, rfl⟩ := keyT_of h1
      cases rk with
      | @tup b vs _ s r =>
        have ev := r.keys
        subst ev
        cases o with
        | @dt ps _ hp rp =>
          have hlen := rp.length
          rw [List.length_map] at hlen
          exact .inr (.inl ⟨ps, ks, b, hp, rfl, s.2, by omega, k _ (.dt upd_same (dput_ok (g := fun ks => .tup (ks.map keyD)) (fun x y z => keyDs_inj (by injection z)) ks (one _) (rp.mono (fun _ f => f) (kp _))))⟩)
        | @dk ps _ hp rp =>
          cases ps with
          | nil =>
            rw [List.map_nil] at rp
            cases rp
            exact .inr (.inr (.inl ⟨ks, b, hp, rfl, s.2, k _ (.dt upd_same (.cons (one _) .nil))⟩))
          | cons p ps =>
            cases kvs with
            | nil => cases rp
            | cons q qs =>
              have hk := rp.keys1
              rw [List.all_cons, Bool.and_eq_true] at h2
              rw [List.map_cons, List.map_cons, List.map_cons] at hk
              injection hk with hk1 _
              have z := h2.1
              rw [← show keyD p.1 = q.1 from hk1, keyD_not_T] at z
              cases z
/-- x[k] = e -/
theorem s_setItem {i : Nat} {x : Str} {p q : Pos} {m mk : Sem D} (hu : X.A.units + 64 < cLine) (hN : X.N[i]? = some x) (hv : Vis X.env.scope x) (he : ED clsV W X e m) (hk : ED clsV W X b mk) (hd : (x == ("__debug__" : Str)) = false := by decide) (hcd : (x == ("__classdict__" : Str)) = false := by decide)
    (ha : ∀ v, assign (.Subscript (.Name x p) b q) X.env v = (do
      let ov ← holding [v] (eval (.Name x p) X.env)
      let iv ← holding [v, ov] (eval b X.env)
      standAt q
      holding [v, ov, iv] (PySem.setItem ov iv v)
      release [v, ov, iv] []) := by intro _; rfl)
    (hs : swapsWithSole [.Subscript (.Name x p) b q] e pos.line X.env = pure false := by rfl) (hw : swappedStores [.Subscript (.Name x p) b q] e X.env = pure none := by rfl)
    (h1 : (assignEach [.Subscript (.Name x p) b q] X.env).map (·.2) = [assign (.Subscript (.Name x p) b q) X.env] := by rfl) : SF clsV W X (.Assign [.Subscript (.Name x p) b q] e pos) (sSetItem i mk m) :=
  PS.imp (ps_asg he (pg_sub (pe_var (i := i) hN hv hd hcd) hk (setR_ok hu) ha) hs hw h1) fun En σ H ⟨ρ, F, own, er, h⟩ => tG.mono (h.bind (Rel1 := relD X.K) er) fun v H1 ⟨d, ρ1, F1, own1, e1, s1, r1, h1⟩ => by
    obtain ⟨o, ho, h2⟩ := h1.oVar e1
    refine ⟨o, ho, tG.mono (h2.bind (Rel1 := relD X.K) e1) fun w H2 ⟨kd, ρ2, F2, own2, e2, s2, r2, h3⟩ => ?_⟩
    obtain ⟨a, t, dd, c, d', o1, o2, o3, hf, k⟩ := wpF.change e2 h3
    rw [ho] at o2
    cases o2
    exact setR_of o3 (e2.nf i a t o1) r2 ((show RepD X.K F1 H1 v d from r1).step s2) hf fun u ou => by
      obtain ⟨e3, h4⟩ := k u ou
      exact h4.pure e3
end
end DL
/-! DL over the model, 9: what is walked; for, while. -/
namespace DL
open PySem PySem.Spec PyProof.Rows L2
/-- J yields ds one by one, as long as what F0 tells is kept -/
structure ItOk (K : PySem.W.Frag) (F0 : Addr → Prop) (H0 : Hp) (J : It) (ds : List D) : Prop where
  go : ∀ i H, i < ds.length → Keep F0 H0 H → J.go i H
  stop : ∀ i H, ds.length ≤ i → Keep F0 H0 H → J.stop i H
  yld : ∀ {F : Addr → Prop} {H : Hp} {own : Ow} {ρ : Env} {σ : St} (i : Nat) (x : V) (H' : Hp), ER K F H own ρ σ → (∀ a, F0 a → F a) → Keep F0 H0 H → i < ds.length → J.yld i H x H' → ∃ F' d, ds[i]? = some d ∧ ER K F' H' own ρ σ ∧ Stp F H own F' H' own ∧ RepD K F' H' x d
def relI (K : PySem.W.Frag) : RelT (List D) It := fun F' _ H' _ _ J ds => ItOk K F' H' J ds
theorem back_I {K : PySem.W.Frag} : Back (relI K) := ⟨fun _ r => r⟩
theorem PI.imp {X : Cx} {tg e : Expr} {t t' : TI} (h : PI X tg e t) (hi : ∀ σ H R, t' σ H R → t σ H R) : PI X tg e t' := ⟨fun pins s σ H R I q => h.run pins s σ H R I (hi σ H R q)⟩
abbrev EI (clsV : Nat → Value) (W : WX) (X : Cx) (tg e : Expr) (m : Sem (List D)) : Prop := PI X tg e (tG clsV X.K W (relI X.K) m)
section
variable {K : PySem.W.Frag} {F F' : Addr → Prop} {H H' : Hp} {own : Ow} {ρ : Env} {σ : St}
theorem itok_lst {a : Addr} {vs : List V} {ds : List D} (s : SqF F H a vs) (r : RepL K F H vs ds) : ItOk K F H (Itl K a) ds := by
  have hl := r.length
  refine ⟨fun i H' hi k => ⟨vs, vs[i]'(by omega), .inl (k.rd s.1 s.2), List.getElem?_eq_getElem _⟩, fun i H' hi k => ⟨vs, .inl (k.rd s.1 s.2), by omega⟩, fun {F1 H1 own ρ σ} i x H' e hF k hi y => ?_⟩
  obtain ⟨rfl, y⟩ := y
  have q := y vs (.inl (k.rd s.1 s.2))
  obtain ⟨v, hv, rv⟩ := r.get (List.getElem?_eq_getElem hi)
  rw [q] at hv
  cases hv
  exact ⟨F1, _, List.getElem?_eq_getElem hi, e, Stp.refl, rv.mono hF k⟩
theorem itok_klst {a : Addr} {vs : List V} {ds : List D} (s : SqF F H a vs ∨ KLst K a vs) (r : RepL K F H vs ds) : ItOk K F H (Itl K a) ds := by
  have hl := r.length
  have sq : ∀ {H' : Hp}, Keep F H H' → SqL K H' a vs := fun k => s.imp (fun s => k.rd s.1 s.2) id
  refine ⟨fun i H' hi k => ⟨vs, vs[i]'(by omega), sq k, List.getElem?_eq_getElem _⟩, fun i H' hi k => ⟨vs, sq k, by omega⟩, fun {F1 H1 own ρ σ} i x H' e hF k hi y => ?_⟩
  obtain ⟨rfl, y⟩ := y
  have q := y vs (sq k)
  obtain ⟨v, hv, rv⟩ := r.get (List.getElem?_eq_getElem hi)
  rw [q] at hv
  cases hv
  exact ⟨F1, _, List.getElem?_eq_getElem hi, e, Stp.refl, rv.mono hF k⟩
theorem itok_tup {a : Addr} {vs : List V} {ds : List D} (s : TpF K F H a vs) (r : RepL K F H vs ds) : ItOk K F H (Itt K a) ds := by
  have hl := r.length
  refine ⟨fun i H' hi k => ⟨vs, vs[i]'(by omega), SqT.of (k.tup s.1 s.2), List.getElem?_eq_getElem _⟩, fun i H' hi k => ⟨vs, SqT.of (k.tup s.1 s.2), by omega⟩, fun {F1 H1 own ρ σ} i x H' e hF k hi y => ?_⟩
  obtain ⟨rfl, y⟩ := y
  have q := y vs (SqT.of (k.tup s.1 s.2))
  obtain ⟨v, hv, rv⟩ := r.get (List.getElem?_eq_getElem hi)
  rw [q] at hv
  cases hv
  exact ⟨F1, _, List.getElem?_eq_getElem hi, e, Stp.refl, rv.mono hF k⟩
theorem rng_length (lo : Int) (n : Nat) : (rng lo n).length = n := by rw [rng, List.length_map, List.length_range]
theorem rng_get {lo : Int} {n i : Nat} (h : i < n) : (rng lo n)[i]? = some (.int (lo + i)) := by
  rw [rng, List.getElem?_map, List.getElem?_range h]; rfl
theorem itok_rng (lo : Int) (n : Nat) : ItOk K F H (Itr lo n) (rng lo n) := by
  refine ⟨fun i H' hi k => by rw [rng_length] at hi; exact hi, fun i H' hi k => by rw [rng_length] at hi; exact hi, fun {F1 H1 own ρ σ} i x H' e hF k hi y => ?_⟩
  obtain ⟨rfl, rfl⟩ := y
  rw [rng_length] at hi
  exact ⟨F1, _, rng_get hi, e, Stp.refl, .int _⟩
theorem itok_str (s : List Nat) : ItOk K F H (Its (mkS s)) (s.map fun c => .str [c]) := by
  refine ⟨fun i H' hi k => by rw [List.length_map] at hi; exact hi, fun i H' hi k => by rw [List.length_map] at hi; exact hi, fun {F1 H1 own ρ σ} i x H' e hF k hi y => ?_⟩
  obtain ⟨rfl, c, hc, rfl⟩ := y
  rw [List.length_map] at hi
  have hc' : s[i]? = some c := by
    have : s.toArray[i]? = some c := hc
    rwa [List.getElem?_toArray] at this
  exact ⟨F1, .str [c], by rw [List.getElem?_map, hc']; rfl, e, Stp.refl, .str [c]⟩
theorem Keep.frz {o : Obj} {u : HO} {a : Addr} (k : Keep F H H') (f : F a) (h : H a = some (.frz o u)) : H' a = some (.frz o u) := by
  rcases k a f with e | ⟨o', u', e, m, _⟩
  · rw [e]; exact h
  · rw [h] at e; cases e; exact m.elim
theorem itok_keys {a : Addr} {o : Obj} {kvs : List (Key × V)} {qs : List (D × D)} (f : F a) (h : H a = some (.frz o (.dK kvs))) (r : RepP K F H (kvs.map fun p => (keyD p.1, p.2)) qs) : ItOk K F H (Itk a o kvs) (qs.map (·.1)) := by
  have hk := r.keys1
  rw [List.map_map] at hk
  have hl : kvs.length = (qs.map (·.1)).length := by rw [← hk, List.length_map]
  refine ⟨fun i H' hi k => ⟨k.frz f h, by omega⟩, fun i H' hi k => ⟨k.frz f h, by omega⟩, fun {F1 H1 own ρ σ} i x H' e hF k hi y => ?_⟩
  obtain ⟨rfl, kk, v, hkv, rfl⟩ := y
  refine ⟨F1, keyD kk, ?_, e, Stp.refl, ?_⟩
  · rw [← hk, List.getElem?_map, hkv]; rfl
  · cases kk with
    | inl i => exact .int i
    | inr s => exact (show RepD K F1 _ (.str s) (.str (unS s)) from mkS_unS s ▸ (unS_mkS (unS s) ▸ RepD.str (unS s)))
theorem repL_keys : ∀ {ks : List Key}, RepL K F H (ks.map kV) (ks.map keyD)
  | [] => .nil
  | .inl i :: ks => .cons (.int i) repL_keys
  | .inr s :: ks => .cons (show RepD K F H (.str s) (.str (unS s)) from mkS_unS s ▸ (unS_mkS (unS s) ▸ RepD.str (unS s))) repL_keys
theorem ER.ownMut {i : Nat} {a : Addr} {t : Bool} (e : ER K F H own ρ σ) (hi : own i = some (a, t)) : ∃ w, H a = some w ∧ Mut (some w) := by
  cases hc : ρ[i]? with
  | none => rw [e.out i hc] at hi; cases hi
  | some c =>
    have q := e.at_ i c hc
    cases c with
    | no => rw [show own i = none from q] at hi; cases hi
    | fr d => rw [q.1] at hi; cases hi
    | ow d => obtain ⟨b, q1, _, o⟩ := q; rw [hi] at q1; cases q1; exact o.some
    | io d => obtain ⟨b, q1, _, o⟩ := q; rw [hi] at q1; cases q1; exact o.some
theorem itok_keysT {a : Addr} {o : Obj} {kvs : List (List Key × V)} {qs : List (D × D)} (f : F a) (h : H a = some (.frz o (.dT kvs))) (r : RepP K F H (kvs.map fun p => (.tup (p.1.map keyD), p.2)) qs) : ItOk K F H (Itkt a o kvs) (qs.map (·.1)) := by
  have hk := r.keys1
  rw [List.map_map] at hk
  have hl : kvs.length = (qs.map (·.1)).length := by rw [← hk, List.length_map]
  refine ⟨fun i H' hi k => ⟨k.frz f h, by omega⟩, fun i H' hi k => ⟨k.frz f h, by omega⟩, fun {F1 H1 own ρ σ} i x H' e hF k hi y => ?_⟩
  obtain ⟨rfl, kk, v, q, hkv, rfl, hq⟩ := y
  have hF1 : ∀ b, F1 b → F1 b ∨ b = q := fun b f => .inl f
  have r1 : RepL K (fun b => F1 b ∨ b = q) H' (kk.map kV) (kk.map keyD) := repL_keys
  refine ⟨fun b => F1 b ∨ b = q, .tup (kk.map keyD), ?_, e.more hF1 ?_ ?_, ⟨hF1, Keep.refl, fun _ _ z _ _ => z, ?_, fun _ _ _ z => .inl z, fun _ z => z⟩, .tup ⟨.inr rfl, hq⟩ r1⟩
  · rw [← hk, List.getElem?_map, hkv]; rfl
  · rintro b (f | rfl)
    · exact e.fdom b f
    · rw [hq]; exact fun z => by cases z
  · rintro j b t hj (f | rfl)
    · exact e.nf j b t hj f
    · obtain ⟨w, hw, mu⟩ := e.ownMut hj
      rw [hq] at hw; cases hw; exact mu.elim
  · rintro b (f | rfl)
    · exact .inl f
    · exact .inr (.inr (.inr ⟨_, hq⟩))
/-- a frozen thing is locked -/
theorem ER.lock {a : Addr} {u : HO} {o : Obj} (e : ER K F H own ρ σ) (f : F a) (h : H a = some u) (mu : Mut (some u)) : ER K F (upd H a (.frz o u)) own ρ σ ∧ Stp F H own F (upd H a (.frz o u)) own := by
  have k : Keep F H (upd H a (.frz o u)) := fun b hb => by
    by_cases z : b = a
    · subst z; exact .inr ⟨o, u, h, mu, upd_same⟩
    · exact .inl (upd_ne z)
  have dom : ∀ b, H b ≠ none → upd H a (.frz o u) b ≠ none := fun b hb => by
    by_cases z : b = a
    · subst z; rw [upd_same]; exact fun q => by cases q
    · rw [upd_ne z]; exact hb
  refine ⟨e.changed rfl (fun _ z => z) k (fun b hb => dom b (e.fdom b hb)) e.nf fun i c hc => .inr ⟨hc, fun b t hb => upd_ne fun z => e.nf i b t hb (z ▸ f)⟩, fun _ z => z, k, fun b w hb nf _ => ?_, fun b hb => .inl hb, fun _ _ _ z => .inl z, dom⟩
  rw [upd_ne (show b ≠ a from fun z => nf (by rw [z]; exact f))]; exact hb
end
/-- a value that is a list or dict, locked -/
theorem pe_lock {X : Cx} {e : Expr} {t : TE} (h : PE X e t) : PE X e (fun σ H Q => t σ H fun v H1 => ∃ a, v = .ref a ∧ ((∃ u, H1 a = some u ∧ Mut (some u) ∧ ∀ o, Q v (upd H1 a (.frz o u))) ∨ Q v H1)) :=
  ⟨fun pins s σ H Q I q => thn (h.run pins s σ H _ I q) fun w s1 ⟨x, H1, I1, r1, a, e, q⟩ => by
    rcases q with ⟨u, hu, mu, q⟩ | q
    · obtain ⟨od, I2⟩ := I1.lock hu mu
      exact ⟨x, _, I2, r1, q od⟩
    · exact ⟨x, H1, I1, r1, q⟩⟩
section
variable {clsV : Nat → Value} {X : Cx} {W : WX} {a b c e tg iter : Expr} {es : List Expr} {st : Stmt} {sts body orelse : List Stmt} {pos : Pos} {ma mb mc : Sem Opd} {m m1 m2 : Sem Flow}
/-- data, walked -/
theorem i_seq {m : Sem D} (he : ED clsV W X e m) : EI clsV W X tg e (iSeq m) := ⟨fun pins s σ H R I h => by
  obtain ⟨ρ, F, own, er, h⟩ := h
  unfold wpS iSeq bind' opt at h
  cases em : m ρ with
  | bad => rw [em] at h; exact h.elim
  | exc x ρ1 =>
    rw [em] at h
    exact (pi_list he).run pins s σ H R I ⟨ρ, F, own, er, by unfold wpS; rw [em]; exact h⟩
  | ok d ρ1 =>
    rw [em] at h
    dsimp only at h
    cases d with
    | lst ds =>
      refine (pi_list he).run pins s σ H R I ⟨ρ, F, own, er, ?_⟩
      unfold wpS; rw [em]
      intro v F1 H1 o1 e1 st r
      cases (show RepD X.K F1 H1 v (.lst ds) from r) with
      | lst s r => exact ⟨_, rfl, ⟨_, .inl s.2⟩, h _ F1 H1 o1 e1 st (itok_lst s r)⟩
    | klst ds =>
      refine (pi_list he).run pins s σ H R I ⟨ρ, F, own, er, ?_⟩
      unfold wpS; rw [em]
      intro v F1 H1 o1 e1 st r
      cases (show RepD X.K F1 H1 v (.klst ds) from r) with
      | klst s r => exact ⟨_, rfl, ⟨_, s.imp (fun s => s.2) id⟩, h _ F1 H1 o1 e1 st (itok_klst s r)⟩
    | tup ds =>
      refine (pi_tup he).run pins s σ H R I ⟨ρ, F, own, er, ?_⟩
      unfold wpS; rw [em]
      intro v F1 H1 o1 e1 st r
      cases (show RepD X.K F1 H1 v (.tup ds) from r) with
      | tup s r => exact ⟨_, rfl, ⟨_, SqT.of s.2⟩, h _ F1 H1 o1 e1 st (itok_tup s r)⟩
    | str ds =>
      refine (pi_str he).run pins s σ H R I ⟨ρ, F, own, er, ?_⟩
      unfold wpS; rw [em]
      intro v F1 H1 o1 e1 st r
      cases (show RepD X.K F1 H1 v (.str ds) from r)
      exact ⟨_, rfl, h _ F1 H1 o1 e1 st (itok_str ds)⟩
    | dic qs =>
      refine (pi_keys (pe_lock he)).run pins s σ H R I ⟨ρ, F, own, er, ?_⟩
      unfold wpS; rw [em]
      intro v F1 H1 o1 e1 st r
      cases (show RepD X.K F1 H1 v (.dic qs) from r) with
      | @dic a ps _ f dv rp =>
        refine ⟨a, rfl, ?_⟩
        cases dv with
        | @k kvs hr =>
          rcases hr with hr | ⟨o, hr⟩
          · refine .inl ⟨_, hr, trivial, fun o => ?_⟩
            obtain ⟨e2, s2⟩ := e1.lock (o := o) f hr trivial
            exact ⟨a, o, rfl, .inl ⟨kvs, upd_same, h _ F1 _ o1 e2 (st.trans s2) (itok_keys f upd_same (rp.mono (fun _ z => z) s2.rd))⟩⟩
          · exact .inr ⟨a, o, rfl, .inl ⟨kvs, hr, h _ F1 _ o1 e1 st (itok_keys f hr rp)⟩⟩
        | @t kvs hr =>
          rcases hr with hr | ⟨o, hr⟩
          · refine .inl ⟨_, hr, trivial, fun o => ?_⟩
            obtain ⟨e2, s2⟩ := e1.lock (o := o) f hr trivial
            exact ⟨a, o, rfl, .inr ⟨kvs, upd_same, h _ F1 _ o1 e2 (st.trans s2) (itok_keysT f upd_same (rp.mono (fun _ z => z) s2.rd))⟩⟩
          · exact .inr ⟨a, o, rfl, .inr ⟨kvs, hr, h _ F1 _ o1 e1 st (itok_keysT f hr rp)⟩⟩
    | _ => exact h.elim⟩
theorem i_range1 {p : Pos} (hg : Gl X "range") (hm : X.mg "range" = none) (ha : EO clsV W X a ma) (hs : starEach [a] X.env = [(false, eval a X.env)] := by rfl) : EI clsV W X tg (.Call (.Name "range" p) [a] [] pos) (iRange1 ma) :=
  PI.imp (pi_range1 hg hm (pa_cons ha pa_nil hs) hs) fun σ H R ⟨ρ, F, own, er, h⟩ => by
    refine tG.mono (h.bind (Rel1 := relO X.K) back_I er) fun v H1 ⟨o, ρ1, F1, own1, e1, s1, r1, h1⟩ => ?_
    obtain ⟨d, rd, h2⟩ := h1.rdO e1 r1
    obtain ⟨ds, hd, h3⟩ := h2.opt
    cases d <;> simp only [reduceCtorEq, Option.ite_none_right_eq_some, Option.some.injEq] at hd
    obtain ⟨⟨q1, q2⟩, rfl⟩ := hd
    have := rd.int
    subst this
    exact ⟨_, rfl, q1, q2, h3 _ F1 H1 own1 e1 Stp.refl (itok_rng 0 _)⟩
theorem i_range2 {p : Pos} (hg : Gl X "range") (hm : X.mg "range" = none) (ha : EO clsV W X a ma) (hb : EO clsV W X b mb) (hs : starEach [a, b] X.env = [(false, eval a X.env), (false, eval b X.env)] := by rfl) (hs2 : starEach [b] X.env = [(false, eval b X.env)] := by rfl) :
    EI clsV W X tg (.Call (.Name "range" p) [a, b] [] pos) (iRange2 ma mb) :=
  PI.imp (pi_range2 hg hm (pa_cons ha (pa_cons hb pa_nil hs2) (by rw [hs, hs2])) hs hs2) fun σ H R ⟨ρ, F, own, er, h⟩ => by
    refine tG.mono (h.bind (Rel1 := relO X.K) back_I er) fun v H1 ⟨o, ρ1, F1, own1, e1, s1, r1, h1⟩ => ?_
    refine tG.mono (h1.bind (Rel1 := relO X.K) back_I e1) fun w H2 ⟨o2, ρ2, F2, own2, e2, s2, r2, h2⟩ => ?_
    obtain ⟨d, rd, h3⟩ := h2.rdO (H1 := H2) e2 (relO.step r1 s2)
    obtain ⟨d', rd', h4⟩ := h3.rdO e2 r2
    obtain ⟨ds, hd, h5⟩ := h4.opt
    cases d <;> cases d' <;> simp only [reduceCtorEq, Option.ite_none_right_eq_some, Option.some.injEq] at hd
    obtain ⟨⟨⟨q1, q2⟩, q3, q4⟩, rfl⟩ := hd
    have := rd.int
    subst this
    have := rd'.int
    subst this
    exact ⟨_, _, rfl, ⟨q1, q2, q3, q4⟩, h5 _ F2 H2 own2 e2 Stp.refl (itok_rng _ _)⟩

/-! ### the turns of a loop -/
/-- what the body reaches at the end of a turn -/
def turnN (clsV : Nat → Value) (K : PySem.W.Frag) (W : WX) (F : Addr → Prop) (H : Hp) (own : Ow) (r : Sem Flow) (D : Ends) : St → Hp → Prop := fun σ' H' => ∃ ρ' F' own', ER K F' H' own' ρ' σ' ∧ Stp F H own F' H' own' ∧ wpF clsV K W r ρ' F' own' σ' H' D
theorem wpF.turn {K : PySem.W.Frag} {F : Addr → Prop} {H : Hp} {own : Ow} {ρ : Env} {σ : St} {b r : Sem Flow} {D : Ends} (e : ER K F H own ρ σ) (h : wpF clsV K W (bind' b fun f => match f with
      | .next => r
      | .cont => r
      | .brk => pure' .next
      | .ret c => pure' (.ret c)) ρ F own σ H D) : wpF clsV K W b ρ F own σ H { D with nx := turnN clsV K W F H own r D, ct := turnN clsV K W F H own r D, bk := D.nx } := by
  unfold wpF bind' at h
  unfold wpF
  cases em : b ρ with
  | ok f ρ1 =>
    rw [em] at h
    intro σ' F' H' own' er st
    cases f with
    | next => exact ⟨ρ1, F', own', er, st, wpF.later st h⟩
    | brk => exact h σ' F' H' own' er st
    | cont => exact ⟨ρ1, F', own', er, st, wpF.later st h⟩
    | ret c => exact h σ' F' H' own' er st
  | exc x ρ1 => rw [em] at h; exact h
  | bad => rw [em] at h; exact h
theorem s_for {t : Tgt} {it : Sem (List D)} (hp : PassesOwn (model X.prog X.w) X.A X.env X.xe) (hc : X.calm = true) (hi : EI clsV W X tg iter it) (hg : PG X tg (gS X.K t)) (hb : SFs clsV W X body m)
    (hs : ∀ x, foldedSetIterable iter X.env x = pure x := by intro _; rfl) : SF clsV W X (.For tg iter body [] pos) (sFor t it m) :=
  PS.imp (ps_for hp hc hi hg hb hs) fun En σ H ⟨ρ, F, own, er, h⟩ => tG.mono (h.bind (Rel1 := relI X.K) er) fun J H1 ⟨ds, ρ1, F1, own1, e1, s1, r1, h1⟩ => by
    have r1 : ItOk X.K F1 H1 J ds := r1
    refine ⟨fun i k σ' H' => ∃ ρ' F' own', ER X.K F' H' own' ρ' σ' ∧ (∀ a, F1 a → F' a) ∧ Keep F1 H1 H' ∧ wpF clsV X.K W (forL t m (ds.drop i)) ρ' F' own' σ' H' En ∧ i ≤ ds.length ∧ k = ds.length - i,
      ⟨_, ρ1, F1, own1, e1, fun _ z => z, Keep.refl, h1, Nat.zero_le _, rfl⟩, ?_⟩
    rintro i k σ2 H2 ⟨ρ2, F2, own2, e2, hF, kp, h2, hi, rfl⟩
    by_cases hlt : i < ds.length
    · refine .inr ⟨r1.go i H2 hlt kp, fun σ' H' => ∃ ρ' F' own', ER X.K F' H' own' ρ' σ' ∧ (∀ a, F1 a → F' a) ∧ Keep F1 H1 H' ∧ wpF clsV X.K W (forL t m (ds.drop (i + 1))) ρ' F' own' σ' H' En, fun σ' H' ⟨ρ', F', own', z1, z2, z3, z4⟩ => ⟨ds.length - (i + 1), by omega, ρ', F', own', z1, z2, z3, z4, hlt, rfl⟩, fun x H' y => ?_⟩
      obtain ⟨F3, d, hd, e3, s3, rx⟩ := r1.yld i x H' e2 hF kp hlt y
      rw [List.drop_eq_getElem_cons hlt] at h2
      rw [List.getElem?_eq_getElem hlt] at hd
      cases hd
      have h3 : wpF clsV X.K W (forL t m (ds[i] :: ds.drop (i + 1))) ρ2 F3 own2 σ2 H' En := wpF.later s3 h2
      unfold forL wpF bind' storeS at h3
      cases hst : store t ds[i] ρ2 with
      | none => simp only [hst] at h3
      | some ρ3 =>
        simp only [hst] at h3
        refine ⟨ρ2, F3, own2, _, ρ3, e3, rx, hst, fun σ4 own4 e4 s4 _ => ?_⟩
        refine ⟨ρ3, F3, own4, e4, ?_⟩
        have h4 := wpF.turn (b := m) (r := forL t m (ds.drop (i + 1))) e4 (wpF.later s4 h3)
        unfold wpF at h4 ⊢
        have fin : ∀ {σ' : St} {H'' : Hp}, turnN clsV X.K W F3 H' own4 (forL t m (ds.drop (i + 1))) En σ' H'' → ∃ ρ' F' own', ER X.K F' H'' own' ρ' σ' ∧ (∀ a, F1 a → F' a) ∧ Keep F1 H1 H'' ∧ wpF clsV X.K W (forL t m (ds.drop (i + 1))) ρ' F' own' σ' H'' En := fun {σ' H''} ⟨ρ', F', own', z1, z2, z3⟩ =>
          ⟨ρ', F', own', z1, fun a f => z2.mono a (s3.mono a (hF a f)), (kp.trans hF s3.rd).trans (fun a f => s3.mono a (hF a f)) z2.rd, z3⟩
        cases em : m ρ3 with
        | ok f ρ4 =>
          rw [em] at h4
          intro σ' F' H'' own' er' st'
          have q := h4 σ' F' H'' own' er' st'
          cases f with
          | next => exact fin q
          | cont => exact fin q
          | brk => exact q
          | ret c => exact q
        | exc x ρ4 => rw [em] at h4; exact h4
        | bad => rw [em] at h4; exact h4
    · refine .inl ⟨r1.stop i H2 (by omega) kp, ?_⟩
      rw [List.drop_of_length_le (by omega)] at h2
      exact h2.pure e2
theorem s_while {tc : Sem Bool} {n : Nat} (hp : PassesOwn (model X.prog X.w) X.A X.env X.xe) (hc : ET clsV W X c tc) (hb : SFs clsV W X body m) : SF clsV W X (.While c body [] pos) (whileL tc m n) :=
  PS.imp (ps_while hp hc hb) fun En σ H ⟨ρ, F, own, er, h⟩ => by
    refine ⟨fun k σ' H' => ∃ ρ' F' own', ER X.K F' H' own' ρ' σ' ∧ wpF clsV X.K W (whileL tc m k) ρ' F' own' σ' H' En, ⟨n, ρ, F, own, er, h⟩, ?_⟩
    rintro k σ1 H1 ⟨ρ1, F1, own1, e1, h1⟩
    cases k with
    | zero => exact h1.elim
    | succ k =>
      refine tG.mono (wpF.bind (Rel1 := relE) e1 h1) fun b H2 ⟨b', ρ2, F2, own2, e2, s2, r2, h2⟩ => ?_
      cases r2
      cases b with
      | true =>
        rw [if_pos rfl]
        refine ⟨turnN clsV X.K W F2 H2 own2 (whileL tc m k) En, fun σ' H' ⟨ρ', F', own', z1, z2, z3⟩ => ⟨k, Nat.lt_succ_self k, ρ', F', own', z1, z3⟩, ρ2, F2, own2, e2, ?_⟩
        exact wpF.turn (b := m) (r := whileL tc m k) e2 h2
      | false => rw [if_neg Bool.false_ne_true]; exact h2.pure e2
end
end DL
/-! DL over the model, 10: comprehensions. -/
namespace DL
open PySem PySem.Spec PyProof.Rows L2
def W0 : WX := fun _ _ _ _ => False
theorem wipeD_length (ρ : Env) : ∀ vs, (DL.wipe ρ vs).length = ρ.length
  | [] => rfl
  | v :: vs => by rw [DL.wipe, List.length_set, wipeD_length ρ vs]
theorem wipeD_out {ρ : Env} {i : Nat} : ∀ {vs : List Nat}, i ∉ vs → (DL.wipe ρ vs)[i]? = ρ[i]?
  | [], _ => rfl
  | v :: vs, h => by
    rw [DL.wipe, List.getElem?_set_ne (fun e => h (by rw [e]; exact List.mem_cons_self)), wipeD_out fun m => h (List.mem_cons_of_mem _ m)]
theorem wipeD_in {ρ : Env} {i : Nat} (hi : i < ρ.length) : ∀ {vs : List Nat}, i ∈ vs → (DL.wipe ρ vs)[i]? = some .no
  | v :: vs, h => by
    rw [DL.wipe]
    by_cases e : v = i
    · subst e; rw [List.getElem?_set_self (by rw [wipeD_length]; exact hi)]
    · rw [List.getElem?_set_ne e]
      exact wipeD_in hi ((List.mem_cons.mp h).resolve_left fun z => e z.symm)
theorem wipe_in {σ : St} {i : Nat} (hi : i < σ.length) : ∀ {vs : List Nat}, i ∈ vs → (L2.wipe σ vs)[i]? = some none
  | v :: vs, h => by
    rw [L2.wipe]
    by_cases e : v = i
    · subst e; rw [List.getElem?_set_self (by rw [wipe_length]; exact hi)]
    · rw [List.getElem?_set_ne e]
      exact wipe_in hi ((List.mem_cons.mp h).resolve_left fun z => e z.symm)
theorem restore_length (ρ0 ρ : Env) : ∀ vs, (DL.restore ρ0 ρ vs).length = ρ.length
  | [] => rfl
  | v :: vs => by rw [DL.restore, List.length_set, restore_length ρ0 ρ vs]
theorem restore_out {ρ0 ρ : Env} {i : Nat} : ∀ {vs : List Nat}, i ∉ vs → (DL.restore ρ0 ρ vs)[i]? = ρ[i]?
  | [], _ => rfl
  | v :: vs, h => by
    rw [DL.restore, List.getElem?_set_ne (fun e => h (by rw [e]; exact List.mem_cons_self)), restore_out fun m => h (List.mem_cons_of_mem _ m)]
theorem restore_in {ρ0 ρ : Env} {i : Nat} (hi : i < ρ.length) : ∀ {vs : List Nat}, i ∈ vs → (DL.restore ρ0 ρ vs)[i]? = some ((ρ0[i]?).getD .no)
  | v :: vs, h => by
    rw [DL.restore]
    by_cases e : v = i
    · subst e; rw [List.getElem?_set_self (by rw [restore_length]; exact hi)]
    · rw [List.getElem?_set_ne e]
      exact restore_in hi ((List.mem_cons.mp h).resolve_left fun z => e z.symm)
theorem calm_of {ρ : Env} {vs : List Nat} (h : calmAt ρ vs = true) {i : Nat} (hi : i ∈ vs) : ρ[i]? = some .no ∨ ∃ d, ρ[i]? = some (.fr d) := by
  unfold calmAt at h
  have q := List.all_eq_true.mp h i hi
  cases hc : ρ[i]? with
  | none => simp only [hc, Bool.false_eq_true] at q
  | some c =>
    cases c with
    | no => exact .inl rfl
    | fr d => exact .inr ⟨d, rfl⟩
    | ow d => simp only [hc, Bool.false_eq_true] at q
    | io d => simp only [hc, Bool.false_eq_true] at q
section
variable {K : PySem.W.Frag} {F F' F1 F2 : Addr → Prop} {H H' H1 H2 : Hp} {own own' own1 own2 : Ow} {ρ ρ1 ρ2 : Env} {σ : St}
theorem ER.calm (e : ER K F H own ρ σ) {vs : List Nat} (h : calmAt ρ vs = true) {i : Nat} (hi : i ∈ vs) : own i = none := by
  rcases calm_of h hi with q | ⟨d, q⟩
  · exact e.at_ i _ q
  · exact (e.at_ i _ q).1
theorem ER.wipe (e : ER K F H own ρ σ) {vs : List Nat} (h : calmAt ρ vs = true) : ER K F H own (DL.wipe ρ vs) (L2.wipe σ vs) := by
  refine ⟨by rw [wipeD_length, wipe_length]; exact e.len, e.fdom, fun i c hc => ?_, fun i hi => e.out i ?_, e.inj, e.nf⟩
  · by_cases hi : i ∈ vs
    · have hl := (List.getElem?_eq_some_iff.mp hc).1
      rw [wipeD_length] at hl
      rw [wipeD_in hl hi] at hc
      cases hc
      exact e.calm h hi
    · rw [wipeD_out hi] at hc
      rw [wipe_out hi]
      exact e.at_ i c hc
  · rw [List.getElem?_eq_none_iff, wipeD_length] at hi
    exact List.getElem?_eq_none_iff.mpr hi
theorem ER.restore {vs : List Nat} (e1 : ER K F1 H1 own1 ρ1 σ) (hc : calmAt ρ1 vs = true) (e2 : ER K F H own (DL.wipe ρ vs) (L2.wipe σ vs)) (s : Stp F1 H1 own1 F H own) : ER K F H own (DL.restore ρ1 ρ vs) σ := by
  have hl : ρ.length = σ.length := by have := e2.len; rwa [wipeD_length, wipe_length] at this
  refine ⟨by rw [restore_length]; exact hl, e2.fdom, fun i c h => ?_, fun i hi => e2.out i ?_, e2.inj, e2.nf⟩
  · have hi' := (List.getElem?_eq_some_iff.mp h).1
    rw [restore_length] at hi'
    by_cases hi : i ∈ vs
    · rw [restore_in hi' hi] at h
      have no : own i = none := e2.at_ i _ (wipeD_in hi' hi)
      rcases calm_of hc hi with q | ⟨d, q⟩
      · rw [q] at h; cases h; exact no
      · rw [q] at h
        cases h
        obtain ⟨_, u, hu, r⟩ := e1.at_ i _ q
        exact ⟨no, u, hu, r.step s⟩
    · rw [restore_out hi] at h
      have q := e2.at_ i c (by rw [wipeD_out hi]; exact h)
      rwa [wipe_out hi] at q
  · rw [List.getElem?_eq_none_iff, restore_length] at hi
    rw [List.getElem?_eq_none_iff, wipeD_length]; exact hi
/-- a list that no name holds -/
structure Park (F : Addr → Prop) (H : Hp) (own : Ow) (L : Addr) (xs : List V) : Prop where
  at_ : H L = some (.lst xs)
  nf : ¬ F L
  no : ∀ i t, own i ≠ some (L, t)
theorem Park.step {L : Addr} {xs : List V} (p : Park F H own L xs) (s : Stp F H own F' H' own') : Park F' H' own' L xs := by
  refine ⟨s.keep L _ p.at_ p.nf p.no, fun f => ?_, fun i t z => ?_⟩
  · rcases s.newF L f with q | q | ⟨i, t, q⟩ | ⟨ys, q⟩
    · exact p.nf q
    · rw [p.at_] at q; cases q
    · exact p.no i t q
    · rw [p.at_] at q; cases q
  · rcases s.newO i L t z with q | ⟨q, _⟩
    · exact p.no i t q
    · rw [p.at_] at q; cases q
theorem Park.put {L : Addr} {xs ys : List V} (p : Park F H own L xs) (e : ER K F H own ρ σ) (s : Stp F1 H1 own1 F H own) (h1 : H1 L = none) : ER K F (upd H L (.lst ys)) own ρ σ ∧ Stp F1 H1 own1 F (upd H L (.lst ys)) own ∧ Park F (upd H L (.lst ys)) own L ys ∧ Keep F H (upd H L (.lst ys)) := by
  have k : Keep F H (upd H L (.lst ys)) := fun b f => .inl (upd_ne fun z => p.nf (by rw [← z]; exact f))
  have dom : ∀ b, H b ≠ none → upd H L (.lst ys) b ≠ none := fun b hb => by
    by_cases z : b = L
    · subst z; rw [upd_same]; exact fun q => by cases q
    · rw [upd_ne z]; exact hb
  refine ⟨e.changed rfl (fun _ z => z) k (fun b hb => dom b (e.fdom b hb)) e.nf fun i c hc => .inr ⟨hc, fun b t hb => upd_ne fun z => p.no i t (by rw [← z]; exact hb)⟩, ⟨s.mono, s.rd.trans s.mono k, fun b o hb nf no => ?_, s.newF, s.newO, fun b hb => dom b (s.dom b hb)⟩, ⟨upd_same, p.nf, p.no⟩, k⟩
  have z : b ≠ L := fun z => by rw [z, h1] at hb; cases hb
  rw [upd_ne z]
  exact s.keep b o hb nf no
theorem wipe_else {σ σ' : St} {ns vs : List Nat} (h : Else ns (L2.wipe σ vs) σ') (sub : ∀ i ∈ ns, i ∈ vs) : L2.wipe σ' vs = L2.wipe σ vs := by
  have hl : σ'.length = σ.length := by rw [h.1, wipe_length]
  apply List.ext_getElem?
  intro i
  by_cases hi : i ∈ vs
  · by_cases hb : i < σ.length
    · rw [wipe_in (by omega) hi, wipe_in hb hi]
    · rw [List.getElem?_eq_none_iff.mpr (by rw [wipe_length]; omega), List.getElem?_eq_none_iff.mpr (by rw [wipe_length]; omega)]
  · rw [wipe_out hi]
    exact h.2 i fun z => hi (sub i z)
end
section
variable {clsV : Nat → Value} {K : PySem.W.Frag} {W : WX}
/-- the reading of a list comprehension -/
theorem lc_of {vs : List Nat} {t : Tgt} {it : Sem (List D)} {c : Sem Bool} {elt : Sem D} {σ : St} {H : Hp} {Q : VK} (sub : ∀ i ∈ names t, i ∈ vs) (h : tG clsV K W (relC K) (sComp vs t it c elt) σ H Q) :
    tLc (tG clsV K W (relI K) it) (gS K t) (tG clsV K W0 relE c) (tG clsV K W0 (relD K) elt) vs σ H Q := by
  obtain ⟨ρ, F, own, er, h⟩ := h
  refine ⟨ρ, F, own, er, ?_⟩
  unfold wpS sComp at h
  unfold wpS
  cases ei : it ρ with
  | bad => simp only [ei] at h
  | exc x ρ1 => simp only [ei] at h; exact h
  | ok ds ρ1 =>
    simp only [ei] at h
    intro J F1 H1 own1 e1 s1 r1 L hL
    have r1 : ItOk K F1 H1 J ds := r1
    by_cases hc : calmAt ρ1 vs = true
    · rw [if_pos hc] at h
      cases ex : compL vs t c elt ds [] ρ1 with
      | bad => simp only [ex] at h
      | exc x ρ2 => simp only [ex] at h
      | ok xs ρ2 =>
        simp only [ex] at h
        have pk0 : Park F1 (upd H1 L (.lst [])) own1 L [] := ⟨upd_same, fun f => e1.fdom L f hL, fun i t z => by
          obtain ⟨w, hw, _⟩ := e1.ownMut z
          rw [hL] at hw; cases hw⟩
        have lim := lim_eq
        refine ⟨fun i k H' => ∃ ρ' F' own' acc accD, ER K F' H' own' (DL.wipe ρ' vs) (L2.wipe σ vs) ∧ Stp F1 H1 own1 F' H' own' ∧ Park F' H' own' L acc ∧ RepL K F' H' acc accD ∧ compL vs t c elt (ds.drop i) accD ρ' = .ok xs ρ2 ∧ i ≤ ds.length ∧ k = ds.length - i,
          ⟨_, ρ1, F1, own1, [], [], (e1.new hL).wipe hc, Stp.new e1.fdom hL, pk0, .nil, ex, Nat.zero_le _, rfl⟩, ?_⟩
        rintro i k H2 ⟨ρ3, F3, own3, acc, accD, e3, s3, p3, ra, ec, hi, rfl⟩
        by_cases hlt : i < ds.length
        · refine .inr ⟨r1.go i H2 hlt s3.rd, fun H' => ∃ ρ' F' own' acc accD, ER K F' H' own' (DL.wipe ρ' vs) (L2.wipe σ vs) ∧ Stp F1 H1 own1 F' H' own' ∧ Park F' H' own' L acc ∧ RepL K F' H' acc accD ∧ compL vs t c elt (ds.drop (i + 1)) accD ρ' = .ok xs ρ2,
            fun H' ⟨ρ', F', own', a1, a2, z1, z2, z3, z4, z5⟩ => ⟨ds.length - (i + 1), by omega, ρ', F', own', a1, a2, z1, z2, z3, z4, z5, hlt, rfl⟩, fun x H' y => ?_⟩
          obtain ⟨F4, d, hd, e4, s4, rx⟩ := r1.yld i x H' e3 s3.mono s3.rd hlt y
          rw [List.drop_eq_getElem_cons hlt] at ec
          rw [List.getElem?_eq_getElem hlt] at hd
          cases hd
          unfold compL at ec
          cases hst : store t ds[i] (DL.wipe ρ3 vs) with
          | none => simp only [hst] at ec; cases ec
          | some ρ4 =>
            simp only [hst] at ec
            refine ⟨DL.wipe ρ3 vs, F4, own3, _, ρ4, e4, rx, hst, fun σ5 own5 e5 s5 els => ?_⟩
            have hw := wipe_else els sub
            refine ⟨hw, ρ4, F4, own5, e5, ?_⟩
            have st5 : Stp F1 H1 own1 F4 H' own5 := (s3.trans s4).trans s5
            have p5 := (p3.step s4).step s5
            have ra5 := (ra.step s4).step s5
            unfold wpS
            cases em : c ρ4 with
            | bad => simp only [em] at ec; cases ec
            | exc x ρ5 => simp only [em] at ec; cases ec
            | ok b ρ5 =>
              simp only [em] at ec
              intro b' F6 H6 own6 e6 s6 hb
              cases hb
              have st6 := st5.trans s6
              have p6 := p5.step s6
              have ra6 := ra5.step s6
              cases b with
              | false =>
                rw [if_neg Bool.false_ne_true]
                simp only at ec
                split at ec
                · rename_i hcm
                  refine ⟨ρ5, F6, own6, acc, accD, ?_, st6, p6, ra6, ec⟩
                  have := e6.wipe hcm
                  rwa [hw] at this
                · cases ec
              | true =>
                rw [if_pos rfl]
                simp only at ec
                refine ⟨ρ5, F6, own6, e6, ?_⟩
                unfold wpS
                cases ee : elt ρ5 with
                | bad => simp only [ee] at ec; cases ec
                | exc x ρ6 => simp only [ee] at ec; cases ec
                | ok y ρ6 =>
                  simp only [ee] at ec
                  intro v F7 H7 own7 e7 s7 rv
                  have rv : RepD K F7 H7 v y := rv
                  split at ec
                  · rename_i hcm
                    have p7 := p6.step s7
                    have ra7 := ra6.step s7
                    have hlen := ra7.length
                    obtain ⟨e8, s8, p8, k8⟩ := p7.put (ys := acc ++ [v]) e7 (st6.trans s7) hL
                    refine ⟨acc, p7.at_, by omega, ρ6, F7, own7, acc ++ [v], accD ++ [y], ?_, s8, p8, (ra7.append (.cons rv .nil)).mono (fun _ z => z) k8, ec⟩
                    have := e8.wipe hcm.2
                    rwa [hw] at this
                  · cases ec
        · rw [List.drop_of_length_le (by omega)] at ec
          cases ec
          refine .inl ⟨r1.stop i H2 (by omega) s3.rd, ?_⟩
          exact h (.ref L) F3 H2 own3 (e1.restore hc e3 s3) (s1.trans s3) ⟨L, rfl, s1.fresh hL, p3.nf, p3.no, .lst p3.at_ ra⟩
    · rw [if_neg hc] at h; exact h.elim
end
section
variable {clsV : Nat → Value} {X : Cx} {W : WX} {a b e tg iter elt : Expr} {ifs : List Expr} {pos : Pos} {scope : Scope} {own : List (Str × Nat)}
theorem PTs.imp {X : Cx} {e : List Expr} {t t' : TT} (h : PTs X e t) (hi : ∀ σ H Q, t' σ H Q → t σ H Q) : PTs X e t' := ⟨fun pins s σ H Q I q => h.run pins s σ H Q I (hi σ H Q q)⟩
theorem ts_nil {K : PySem.W.Frag} {W : WX} : PTs X [] (tG clsV K W relE sYes) := PTs.imp pts_nil fun σ H Q ⟨ρ, F, own, er, h⟩ => h true F H own er Stp.refl rfl
theorem ts_one {W : WX} {m : Sem Bool} (h : ET clsV W X e m) : PTs X [e] (tG clsV X.K W relE m) := pts_one h
/-- [elt for tg in iter if ..] -/
theorem e_lc {t : Tgt} {it : Sem (List D)} {c : Sem Bool} {m : Sem D} (hc : X.calm = true) (hN : X.N.Nodup) (hi : EI clsV W X tg iter it) (ok : BlkOk X.N X.env.scope scope own) (sub : ∀ i ∈ names t, i ∈ own.map (·.2))
    (hg : ∀ (s : Shared) (H : Hp) (C : Addr) (cl : List (Str × Addr)) (fp : List Addr), PG (X.blk s H scope (compEnvC scope cl C X.env) fp) tg (gS X.K t)) (ht : ∀ (s : Shared) (H : Hp) (C : Addr) (cl : List (Str × Addr)) (fp : List Addr), PTs (X.blk s H scope (compEnvC scope cl C X.env) fp) ifs (tG clsV X.K W0 relE c))
    (he : ∀ (s : Shared) (H : Hp) (C : Addr) (cl : List (Str × Addr)) (fp : List Addr), ED clsV W0 (X.blk s H scope (compEnvC scope cl C X.env) fp) elt m) (hs : ∀ x, foldedSetIterable iter X.env x = pure x := by intro _; rfl) :
    EC clsV W X (.ListComp elt [⟨tg, iter, ifs, 0⟩] scope pos) (sComp (own.map (·.2)) t it c m) :=
  PE.imp (pe_lc hc hN hi ok hg ht he hs) fun σ H Q h => lc_of sub h
theorem s_setLc {i : Nat} {y : Str} {py spos : Pos} {t : Tgt} {it : Sem (List D)} {c : Sem Bool} {m : Sem D} (hc : X.calm = true) (hN : X.N.Nodup) (hy : X.N[i]? = some y) (hyl : X.env.scope.names.lookup y = some .local)
    (hsw : swapsWith (.ListComp elt [⟨tg, iter, ifs, 0⟩] scope pos) (some (.Name y py)) spos.line X.env = pure true) (hi : EI clsV W X tg iter it) (ok : BlkOk X.N X.env.scope scope own) (sub : ∀ i ∈ names t, i ∈ own.map (·.2))
    (hg : ∀ (s : Shared) (H : Hp) (C : Addr) (cl : List (Str × Addr)) (fp : List Addr), PG (X.blk s H scope (compEnvC scope cl C X.env) fp) tg (gS X.K t)) (ht : ∀ (s : Shared) (H : Hp) (C : Addr) (cl : List (Str × Addr)) (fp : List Addr), PTs (X.blk s H scope (compEnvC scope cl C X.env) fp) ifs (tG clsV X.K W0 relE c))
    (he : ∀ (s : Shared) (H : Hp) (C : Addr) (cl : List (Str × Addr)) (fp : List Addr), ED clsV W0 (X.blk s H scope (compEnvC scope cl C X.env) fp) elt m) (hs : ∀ x, foldedSetIterable iter X.env x = pure x := by intro _; rfl) :
    SF clsV W X (.Assign [.Name y py] (.ListComp elt [⟨tg, iter, ifs, 0⟩] scope pos) spos) (sSet i (sComp (own.map (·.2)) t it c m)) :=
  PS.imp (ps_setLc hc hN hy hyl hsw hi ok hg ht he hs) fun D σ H ⟨ρ, F, o, er, h⟩ => lc_of sub (h.store er)
end
end DL
/-! DL over the model, 11: defs. -/
namespace DL
open PySem PySem.Spec PyProof.Rows L2
section
variable {K : PySem.W.Frag} {F F' : Addr → Prop} {H H' : Hp}
theorem Owns.get : ∀ {as : List Addr} {ds : List D} {i : Nat} {d : D}, Owns K F H as ds → ds[i]? = some d → ∃ a, as[i]? = some a ∧ OwnR K F H a d
  | _, _, _, _, .nil, h => by simp at h
  | _, _, 0, _, .cons a _, h => by simp at h; subst h; exact ⟨_, rfl, a⟩
  | _, _, i + 1, d, .cons _ t, h => by
    obtain ⟨v, h1, h2⟩ := Owns.get (i := i) (d := d) t (by simpa using h)
    exact ⟨v, by simpa using h1, h2⟩
/-- the frame at a def's entry -/
theorem ER.enter {as : List Addr} {dio ds : List D} {v2 : List V} {N : Nat} {np ns : Nat} (nd : as.Nodup) (ho : Owns K F H as dio) (nf : ∀ a ∈ as, ¬ F a) (fd : ∀ a, F a → H a ≠ none) (r : RepL K F H v2 ds) (hl : dio.length + ds.length = np) :
    ER K F H (lentOf as) ((dio.map Cell.io ++ ds.map Cell.fr) ++ List.replicate (N - np) Cell.no) ((as.map V.ref ++ v2).map some ++ List.replicate (N - (as.map V.ref ++ v2).length) none) := by
  have l1 := ho.length
  have l2 := r.length
  have lv : (as.map V.ref ++ v2).length = np := by rw [List.length_append, List.length_map]; omega
  have fin : ∀ {i : Nat}, dio.length ≤ i → lentOf as i = none := fun {i} hi => by
    unfold lentOf; rw [List.getElem?_eq_none (by omega)]; rfl
  refine ⟨by simp; omega, fd, fun i c h => ?_, fun i h => fin ?_, fun i j a t u h1 h2 => ?_, fun i a t h => ?_⟩
  · by_cases h1 : i < dio.length
    · rw [List.append_assoc, List.getElem?_append_left (by simpa using h1), List.getElem?_map] at h
      obtain ⟨d, hd, rfl⟩ := Option.map_eq_some_iff.mp h
      obtain ⟨a, ha, o⟩ := ho.get hd
      refine ⟨a, by unfold lentOf; rw [ha]; rfl, ?_, o⟩
      rw [List.getElem?_append_left (by simp; omega), List.map_append, List.getElem?_append_left (by simp; omega), List.getElem?_map, List.getElem?_map, ha]
      rfl
    · by_cases h2 : i < np
      · rw [List.getElem?_append_left (by simp; omega), List.getElem?_append_right (by simpa using h1), List.length_map, List.getElem?_map] at h
        obtain ⟨d, hd, rfl⟩ := Option.map_eq_some_iff.mp h
        obtain ⟨v, hv, rv⟩ := r.get hd
        refine ⟨fin (by omega), v, ?_, rv⟩
        rw [List.getElem?_append_left (by simp; omega), List.map_append, List.getElem?_append_right (by simp; omega), List.getElem?_map]
        simp only [List.length_map]
        rw [l1, hv]
        rfl
      · rw [List.getElem?_append_right (by simp; omega)] at h
        have := List.mem_of_getElem? h
        have := List.eq_of_mem_replicate this
        subst this
        exact fin (by omega)
  · rw [List.getElem?_eq_none_iff] at h
    simp at h
    omega
  · obtain ⟨z1, _⟩ := lentOf_some h1
    obtain ⟨z2, _⟩ := lentOf_some h2
    exact (List.getElem?_inj (List.getElem?_eq_some_iff.mp z1).1 nd).mp (z1.trans z2.symm)
  · obtain ⟨z1, _⟩ := lentOf_some h
    exact nf a (List.mem_of_getElem? z1)
/-- what the lent things are behind it -/
theorem outs_get {ρ : Env} : ∀ {n i : Nat} {os : List D}, outs ρ i n = some os → os.length = n ∧ ∀ k d, os[k]? = some d → ρ[i + k]? = some (.io d)
  | 0, i, os, h => by cases h; exact ⟨rfl, fun k d h => by simp at h⟩
  | n + 1, i, os, h => by
    unfold outs at h
    split at h
    · rename_i d ds h1 h2
      cases h
      obtain ⟨q1, q2⟩ := outs_get h2
      refine ⟨by simp [q1], fun k e hk => ?_⟩
      cases k with
      | zero => simp at hk; subst hk; exact h1
      | succ k => have := q2 k e (by simpa using hk); rw [← this]; congr 1; omega
    · cases h
theorem Owns.of : ∀ {as : List Addr} {os : List D}, as.length = os.length → (∀ (k : Nat) (a : Addr) (d : D), as[k]? = some a → os[k]? = some d → OwnR K F H a d) → Owns K F H as os
  | [], [], _, _ => .nil
  | [], _ :: _, h, _ => by cases h
  | _ :: _, [], h, _ => by cases h
  | a :: as, d :: ds, h, hk => .cons (hk 0 a d rfl rfl) (Owns.of (by simpa using h) fun k b e h1 h2 => hk (k + 1) b e (by simpa using h1) (by simpa using h2))
theorem ER.leave {as : List Addr} {own : Ow} {ρ : Env} {σ : St} {nio : Nat} {os : List D} (e : ER K F' H' own ρ σ) (s : Stp F H (lentOf as) F' H' own) (hn : as.length = nio) (ho : outs ρ 0 nio = some os) :
    Stp F H (lentOf as) F' H' (lentOf as) ∧ Owns K F' H' as os ∧ ∀ a ∈ as, ¬ F' a := by
  obtain ⟨q1, q2⟩ := outs_get ho
  have key : ∀ k a, as[k]? = some a → ∃ d, os[k]? = some d ∧ own k = some (a, true) ∧ OwnR K F' H' a d := fun k a ha => by
    have hk : k < os.length := by have := (List.getElem?_eq_some_iff.mp ha).1; omega
    have h1 := List.getElem?_eq_getElem hk
    have h2 := q2 k _ h1
    rw [Nat.zero_add] at h2
    obtain ⟨b, o1, o2, o3⟩ := e.at_ k _ h2
    rcases s.newO k b true o1 with q | ⟨_, q⟩
    · obtain ⟨z, _⟩ := lentOf_some q
      rw [ha] at z
      cases z
      exact ⟨_, h1, o1, o3⟩
    · cases q
  refine ⟨⟨s.mono, s.rd, s.keep, s.newF, fun i a t h => .inl h, s.dom⟩, Owns.of (by omega) fun k a d ha hd => ?_, fun a ha => ?_⟩
  · obtain ⟨d', h1, _, o⟩ := key k a ha
    rw [hd] at h1; cases h1; exact o
  · obtain ⟨k, hk, rfl⟩ := List.mem_iff_getElem.mp ha
    obtain ⟨d', _, o, _⟩ := key k _ (List.getElem?_eq_getElem hk)
    exact e.nf k _ _ o
end
section
variable {clsV : Nat → Value} {P : Program} {w : World} {K : PySem.W.Frag} {mg : Str → Option Value} {base : Heap}
/-- no call deeper -/
theorem fn_zero {fns : Nat → Option Fn} {f : Addr} {fd : FuncData} {ps : List Str} {k id nio : Nat} : FnOk P w K mg base (L2.CX P w) k f fd ps (spF clsV K (callF fns 0) id nio) :=
  ⟨fun vs H Q E ⟨F, as, dio, ds, v2, h⟩ => h.2.2.2.2.2.2.2.elim, fun A outer s H args us vs Q E _ _ _ _ ⟨F, as, dio, ds, v2, h⟩ => h.2.2.2.2.2.2.2.elim⟩
theorem run_np {fn : Fn} {Γ : Ora} {cs : List Cell} (h : fn.run Γ cs ≠ .bad) : cs.length = fn.np := by
  unfold Fn.run at h
  by_cases z : cs.length = fn.np
  · exact z
  · rw [if_neg z] at h; exact (h rfl).elim
/-- THE RULE for a def -/
theorem fn_okF {x qual : Str} {st : Stmt} {f : Addr} {fd : FuncData} {N ps : List Str} {k n id : Nat} {fn : Fn} {fns : Nat → Option Fn} (FF : Fun K x qual st f fd) (S : FnScope N ps (defScope st)) (hfn : fns id = some fn) (hp : ps.length = fn.np) (hN : N.length = fn.ns)
    (hbody : ∀ (cdv : Value) (A : Around) (outer : List PySem.Env) (s : Shared) (H : Hp) (E : XK), Room k (A.deeper (envOfC qual (defScope st) s.heap.objs.size f cdv)) →
      SFs clsV (fun cls d _ H => E cls d H) (cxOf (L2.CX P w) P w K mg base N qual (defScope st) f cdv A outer s H E) (defBody st) (fn.body (callF fns n))) :
    FnOk P w K mg base (L2.CX P w) (k + 1) f fd ps (spF clsV K (callF fns (n + 1)) id fn.nio) := by
  have hc : ∀ cs, callF fns (n + 1) id cs = fn.run (callF fns n) cs := fun cs => by
    show (match fns id with | some fn => fn.run (callF fns n) cs | none => .bad) = _
    rw [hfn]
  refine FF.okX S (fun vs H Q E h => ?_) fun cdv A outer s H vs Q E hr h => ⟨_, hbody cdv A outer s H E hr, ?_⟩
  · obtain ⟨F, as, dio, ds, v2, rfl, hl, nd, ho, nf, fd, r, h⟩ := h
    rw [hc] at h
    have := run_np (fn := fn) (Γ := callF fns n) (cs := dio.map Cell.io ++ ds.map Cell.fr) fun z => by rw [z] at h; exact h
    have l1 := ho.length
    have l2 := r.length
    simp at this
    simp
    omega
  · obtain ⟨F, as, dio, ds, v2, rfl, hl, nd, ho, nf, fd, r, h⟩ := h
    rw [hc] at h
    have hnp := run_np (fn := fn) (Γ := callF fns n) (cs := dio.map Cell.io ++ ds.map Cell.fr) fun z => by rw [z] at h; exact h
    unfold Fn.run at h
    rw [if_pos hnp] at h
    have hnp' : dio.length + ds.length = fn.np := by simpa using hnp
    refine ⟨_, F, lentOf as, ER.enter (N := N.length) (np := fn.np) (ns := fn.ns) nd ho nf fd r hnp', ?_⟩
    rw [hN]
    unfold wpF
    cases eb : fn.body (callF fns n) ((dio.map Cell.io ++ ds.map Cell.fr) ++ List.replicate (fn.ns - fn.np) Cell.no) with
    | bad => rw [eb] at h; exact h
    | exc y ρ' =>
      rw [eb] at h
      dsimp only at h
      intro c d σ' F' H' own' er st x
      cases hos : outs ρ' 0 fn.nio with
      | none => rw [hos] at h; exact h.elim
      | some os =>
        rw [hos] at h
        obtain ⟨z1, z2, z3⟩ := er.leave st hl hos
        exact h c d F' H' z1 z2 z3 er.fdom x
    | ok fl ρ' =>
      rw [eb] at h
      intro σ' F' H' own' er st
      cases fl with
      | brk => exact h.elim
      | cont => exact h.elim
      | next =>
        dsimp only at h
        cases hos : outs ρ' 0 fn.nio with
        | none => rw [hos] at h; exact h.elim
        | some os =>
          rw [hos] at h
          obtain ⟨z1, z2, z3⟩ := er.leave st hl hos
          exact h .non F' H' z1 z2 z3 er.fdom .non
      | ret c =>
        dsimp only at h
        cases hos : outs ρ' 0 fn.nio with
        | none => rw [hos] at h; exact h.elim
        | some os =>
          rw [hos] at h
          obtain ⟨z1, z2, z3⟩ := er.leave st hl hos
          intro v rv
          by_cases hcc : outC c = true
          · simp only [hcc, if_true] at h
            refine h v F' H' z1 z2 z3 er.fdom ?_
            cases c with
            | no => exact rv
            | io d => exact rv
            | fr d => exact rv
            | ow d =>
              obtain ⟨a, q1, q2, q3, q4, q5⟩ := rv
              refine ⟨a, q1, ?_, q3, q5⟩
              rcases q2 with q2 | ⟨j, q2⟩
              · exact q2
              · obtain ⟨_, q⟩ := lentOf_some q2; cases q
          · simp [hcc] at h
end
end DL
/-! DL over the model, 12: dict displays; the end. -/
namespace DL
open PySem PySem.Spec PyProof.Rows L2
section
variable {K : PySem.W.Frag} {F F' F1 F2 : Addr → Prop} {H H' H1 H2 : Hp} {own own' own1 own2 : Ow} {ρ ρ1 ρ2 : Env} {σ : St}
/-- a thing that no name holds -/
structure ParkG (F : Addr → Prop) (H : Hp) (own : Ow) (L : Addr) (u : HO) : Prop where
  at_ : H L = some u
  mu : Mut (some u)
  nf : ¬ F L
  no : ∀ i t, own i ≠ some (L, t)
theorem ParkG.step {L : Addr} {u : HO} (p : ParkG F H own L u) (s : Stp F H own F' H' own') : ParkG F' H' own' L u := by
  refine ⟨s.keep L _ p.at_ p.nf p.no, p.mu, fun f => ?_, fun i t z => ?_⟩
  · rcases s.newF L f with q | q | ⟨i, t, q⟩ | ⟨ys, q⟩
    · exact p.nf q
    · rw [p.at_] at q; cases q
    · exact p.no i t q
    · rw [p.at_] at q; cases q; exact p.mu
  · rcases s.newO i L t z with q | ⟨q, _⟩
    · exact p.no i t q
    · rw [p.at_] at q; cases q
theorem ParkG.put {L : Addr} {u u' : HO} (p : ParkG F H own L u) (e : ER K F H own ρ σ) (s : Stp F1 H1 own1 F H own) (h1 : H1 L = none) : ER K F (upd H L u') own ρ σ ∧ Stp F1 H1 own1 F (upd H L u') own ∧ Keep F H (upd H L u') := by
  have k : Keep F H (upd H L u') := fun b f => .inl (upd_ne fun z => p.nf (by rw [← z]; exact f))
  have dom : ∀ b, H b ≠ none → upd H L u' b ≠ none := fun b hb => by
    by_cases z : b = L
    · subst z; rw [upd_same]; exact fun q => by cases q
    · rw [upd_ne z]; exact hb
  refine ⟨e.changed rfl (fun _ z => z) k (fun b hb => dom b (e.fdom b hb)) e.nf fun i c hc => .inr ⟨hc, fun b t hb => upd_ne fun z => p.no i t (by rw [← z]; exact hb)⟩, ⟨s.mono, s.rd.trans s.mono k, fun b o hb nf no => ?_, s.newF, s.newO, fun b hb => dom b (s.dom b hb)⟩, k⟩
  have z : b ≠ L := fun z => by rw [z, h1] at hb; cases hb
  rw [upd_ne z]
  exact s.keep b o hb nf no
theorem ParkG.new {L : Addr} {u : HO} (e : ER K F H own ρ σ) (hL : H L = none) (mu : Mut (some u)) : ParkG F (upd H L u) own L u := ⟨upd_same, mu, fun f => e.fdom L f hL, fun i t z => by
  obtain ⟨w, hw, _⟩ := e.ownMut z
  rw [hL] at hw; cases hw⟩
/-- pairs -/
inductive PPR (K : PySem.W.Frag) (F : Addr → Prop) (H : Hp) : List (V × V) → List (D × D) → Prop
  | nil : PPR K F H [] []
  | cons {a b : V} {c d : D} {vs ds} : RepD K F H a c → RepD K F H b d → PPR K F H vs ds → PPR K F H ((a, b) :: vs) ((c, d) :: ds)
def relPP (K : PySem.W.Frag) : RelT (List (D × D)) (List (V × V)) := fun F' _ H' _ _ v d => PPR K F' H' v d
theorem back_PP : Back (relPP K) := ⟨fun _ r => r⟩
end
section
variable {clsV : Nat → Value} {X : Cx} {W : WX} {pos : Pos}
def trsOf (clsV : Nat → Value) (K : PySem.W.Frag) (W : WX) (l : List (Sem D × Sem D)) : List (TE × TE) := l.map fun p => (tG clsV K W (relD K) p.1, tG clsV K W (relD K) p.2)
theorem pairs_of {K : PySem.W.Frag} : ∀ (l : List (Sem D × Sem D)) {F : Addr → Prop} {H : Hp} {own : Ow} {ρ : Env} {σ : St} {Q : List (V × V) → Hp → Prop}, ER K F H own ρ σ → wpS clsV K W (relPP K) (sPairs l) ρ F own σ H Q → tPairs (trsOf clsV K W l) σ H Q
  | [], F, H, own, ρ, σ, Q, e, h => h [] F H own e Stp.refl .nil
  | (k, v) :: r, F, H, own, ρ, σ, Q, e, h => by
    refine tG.mono (wpS.bind (Rel1 := relD K) back_PP e h) fun x H1 ⟨a, ρ1, F1, own1, e1, s1, r1, h1⟩ => ?_
    refine tG.mono (wpS.bind (Rel1 := relD K) back_PP e1 h1) fun y H2 ⟨b, ρ2, F2, own2, e2, s2, r2, h2⟩ => ?_
    refine pairs_of r e2 ?_
    unfold wpS bind' at h2
    unfold wpS
    cases em : sPairs r ρ2 with
    | bad => rw [em] at h2; exact h2
    | exc x ρ' => rw [em] at h2; exact h2
    | ok ps ρ3 =>
      rw [em] at h2
      intro vs F3 H3 own3 e3 s3 r3
      exact h2 _ F3 H3 own3 e3 s3 (.cons (((show RepD K F1 H1 x a from r1).step s2).step s3) ((show RepD K F2 H2 y b from r2).step s3) r3)
theorem PPR.keys {K : PySem.W.Frag} {F : Addr → Prop} {H : Hp} : ∀ {vs : List (V × V)} {ds : List (D × D)}, PPR K F H vs ds → (ds.all fun p => key1 p.1) = true → ∃ kvs : List (Key × V), vs = kvs.map (fun kv => (kV kv.1, kv.2)) ∧ RepP K F H (kvs.map fun p => (keyD p.1, p.2)) ds
  | _, _, .nil, _ => ⟨[], rfl, .nil⟩
  | _, _, .cons ra rb t, h => by
    rw [List.all_cons, Bool.and_eq_true] at h
    obtain ⟨k, hk⟩ := key1_of h.1
    obtain ⟨kvs, rfl, rp⟩ := PPR.keys t h.2
    dsimp only at hk
    subst hk
    have := ra.key
    subst this
    exact ⟨(k, _) :: kvs, rfl, .cons rb rp⟩
theorem RepP.merge {K : PySem.W.Frag} {F : Addr → Prop} {H : Hp} : ∀ {kvs acc : List (Key × V)} {ds da : List (D × D)}, RepP K F H (kvs.map fun p => (keyD p.1, p.2)) ds → RepP K F H (acc.map fun p => (keyD p.1, p.2)) da →
    RepP K F H ((mergeK acc kvs).map fun p => (keyD p.1, p.2)) (ds.foldl (fun acc p => dput acc p.1 p.2) da)
  | [], _, _, _, r, ra => by rw [List.map_nil] at r; cases r; exact ra
  | p :: kvs, _, _, _, r, ra => by
    rw [List.map_cons] at r
    cases r with
    | cons rv t =>
      rw [List.foldl_cons]
      exact RepP.merge (acc := putK _ p.1 p.2) t (dput_ok (fun _ _ => keyD_inj) p.1 rv ra)
/-- {k: v, ..} -/
theorem e_disp {keys : List (Option Expr)} {values : List Expr} {l : List (Sem D × Sem D)} (h : PPs X pos keys values (trsOf clsV X.K W l)) (hall : keys.all (·.isSome) = true := by rfl) (hl : keys.length = values.length := by rfl) (h0 : keys ≠ [] := by simp) (h15 : keys.length ≤ 15 := by decide) :
    EC clsV W X (.Dict keys values pos) (sDisp l) :=
  PE.imp (pe_disp h hall hl h0 h15) fun σ H Q ⟨ρ, F, own, er, hw⟩ p hp => by
    have e0 := er.new (u := .dK []) hp
    have s0 : Stp F H own F (upd H p (.dK [])) own := Stp.new er.fdom hp
    have pk := ParkG.new (u := .dK []) er hp trivial
    refine pairs_of l e0 ?_
    unfold wpS sDisp bind' at hw
    unfold wpS
    cases em : sPairs l ρ with
    | bad => rw [em] at hw; exact hw
    | exc x ρ' => rw [em] at hw; exact fun c d F' H' own' e' s' => hw c d F' H' own' e' (s0.trans s')
    | ok ps ρ1 =>
      rw [em] at hw
      intro vs F1 H1 own1 e1 s1 r1
      have r1 : PPR X.K F1 H1 vs ps := r1
      have pk1 := pk.step s1
      unfold opt at hw
      dsimp only at hw
      cases hd : disp ps with
      | none => rw [hd] at hw; exact hw.elim
      | some c =>
        rw [hd] at hw
        unfold disp at hd
        simp only [Option.ite_none_right_eq_some, Bool.and_eq_true, decide_eq_true_eq, Option.some.injEq] at hd
        obtain ⟨⟨hk, hlen⟩, rfl⟩ := hd
        obtain ⟨kvs, rfl, rp⟩ := r1.keys hk
        have hl' := rp.length
        rw [List.length_map] at hl'
        obtain ⟨e2, s2, k2⟩ := pk1.put (u' := .dK (mergeK [] kvs)) e1 (s0.trans s1) hp
        refine ⟨pk1.at_, kvs, rfl, by omega, hw _ F1 _ own1 e2 s2 ⟨p, rfl, hp, pk1.nf, pk1.no, .dk upd_same ((RepP.merge rp .nil).mono (fun _ z => z) k2)⟩⟩
theorem p_nil : PPs X pos [] [] (trsOf clsV X.K W []) := pps_nil
theorem p_cons {k v : Expr} {ks : List (Option Expr)} {vs : List Expr} {mk mv : Sem D} {l : List (Sem D × Sem D)} (hk : ED clsV W X k mk) (hv : ED clsV W X v mv) (hr : PPs X pos ks vs (trsOf clsV X.K W l)) : PPs X pos (some k :: ks) (v :: vs) (trsOf clsV X.K W ((mk, mv) :: l)) := pps_cons hk hv hr
end
/-! ### the end -/
section
variable {K : PySem.W.Frag} {H : Hp}
theorem rep_ints {F : Addr → Prop} : ∀ {ns : List Int}, RepL K F H (ns.map V.int) (ns.map D.int)
  | [] => .nil
  | n :: ns => .cons (.int n) rep_ints
theorem sp_law {clsV : Nat → Value} {fns : Nat → Option Fn} {N id : Nat} {a : Addr} {ns : List Int} (hS : SqL K H a (ns.map V.int)) {os : List D} (main : callF fns N id [.fr (.klst (ns.map D.int))] = .ok (.fr (.bl true)) os) :
    spF clsV K (callF fns N) id 0 [.ref a] H (fun v _ => v = .bl true) fun _ _ _ => False := by
  refine ⟨fun b => b = a ∧ H a ≠ none, [], [], [.klst (ns.map D.int)], [.ref a], rfl, rfl, List.nodup_nil, .nil, fun b hb => by simp at hb, ?_, ?_, ?_⟩
  · rintro b ⟨rfl, h⟩; exact h
  · refine .cons (.klst (vs := ns.map V.int) ?_ rep_ints) .nil
    rcases hS with h | h
    · refine .inl ⟨⟨rfl, ?_⟩, h⟩
      rcases h with h | ⟨o, h⟩ <;> (rw [h]; exact fun z => by cases z)
    · exact .inr h
  · show (match callF fns N id [.fr (.klst (ns.map D.int))] with | .ok c os => _ | .exc x os => _ | .bad => False)
    rw [main]
    intro v F' H' _ _ _ _ r
    cases (show RepD K F' H' v (.bl true) from r)
    rfl
theorem sp_lawQ {clsV : Nat → Value} {fns : Nat → Option Fn} {N id : Nat} {a : Addr} {ns : List Int} {Q : VK} {E : XK} (hS : SqL K H a (ns.map V.int)) (hQ : ∀ H', Q (.bl true) H') {os : List D} (main : callF fns N id [.fr (.klst (ns.map D.int))] = .ok (.fr (.bl true)) os) :
    spF clsV K (callF fns N) id 0 [.ref a] H Q E := by
  refine ⟨fun b => b = a ∧ H a ≠ none, [], [], [.klst (ns.map D.int)], [.ref a], rfl, rfl, List.nodup_nil, .nil, fun b hb => by simp at hb, ?_, ?_, ?_⟩
  · rintro b ⟨rfl, h⟩; exact h
  · refine .cons (.klst (vs := ns.map V.int) ?_ rep_ints) .nil
    rcases hS with h | h
    · refine .inl ⟨⟨rfl, ?_⟩, h⟩
      rcases h with h | ⟨o, h⟩ <;> (rw [h]; exact fun z => by cases z)
    · exact .inr h
  · show (match callF fns N id [.fr (.klst (ns.map D.int))] with | .ok c os => _ | .exc x os => _ | .bad => False)
    rw [main]
    intro v F' H' _ _ _ _ r
    cases (show RepD K F' H' v (.bl true) from r)
    exact hQ H'
/-- the law's promise -/
def spL (K : PySem.W.Frag) : Sp := fun vs H Q _ => ∃ (a : Addr) (ns : List Int), vs = [.ref a] ∧ SqL K H a (ns.map V.int) ∧ ns.length ≤ 63 ∧ ∀ H', Q (.bl true) H'
end
end DL
/-! DL over the model, 13: the words that the printed derivations use. -/
namespace DL
open PySem PySem.Spec PyProof.Rows L2
section
variable {clsV : Nat → Value} {X : Cx} {W : WX}
theorem xv (i : Nat) {x : Str} {pos : Pos} (hN : X.N[i]? = some x := by rfl) (hv : Vis X.env.scope x := by first | exact Or.inl rfl | exact Or.inr (Or.inl rfl) | exact Or.inr (Or.inr rfl)) (hd : (x == ("__debug__" : Str)) = false := by decide)
    (hcd : (x == ("__classdict__" : Str)) = false := by decide) : EC clsV W X (.Name x pos) (sVar i) := e_var hN hv hd hcd
theorem xo (i : Nat) {x : Str} {pos : Pos} (hN : X.N[i]? = some x := by rfl) (hv : Vis X.env.scope x := by first | exact Or.inl rfl | exact Or.inr (Or.inl rfl) | exact Or.inr (Or.inr rfl)) (hd : (x == ("__debug__" : Str)) = false := by decide)
    (hcd : (x == ("__classdict__" : Str)) = false := by decide) : EO clsV W X (.Name x pos) (oVar i) := e_ovar hN hv hd hcd
theorem xn (nd : X.N.Nodup) (i : Nat) {x : Str} {pos : Pos} (hi : X.N[i]? = some x := by rfl) (hx : Loc X.env.scope x := by first | exact Or.inl rfl | exact Or.inr rfl) (hf : X.fn x = true ∨ X.env.scope.names.lookup x = some .local := by first | exact .inl rfl | exact .inr rfl | assumption) :
    PG X (.Name x pos) (gS X.K (.name i)) := g_name nd hi hx hf
theorem e_neg {i : Int} {j p pos} : EC clsV W X (.UnaryOp .USub (.Constant (.int i) j p) pos) (sK (.int (-i))) :=
  PE.imp (pe_un un_neg pe_int) fun σ H Q ⟨ρ, F, own, er, h⟩ => ⟨i, rfl, h (.int (-i)) F H own er Stp.refl (.int _)⟩
/-- a module's whole number -/
theorem xk {x : Str} {i : Int} {pos : Pos} (hm : ∃ t, X.mg x = some (.int i t)) (hg : Gl X x) (hd : (x == ("__debug__" : Str)) = false := by decide) : EC clsV W X (.Name x pos) (sK (.int i)) := by
  obtain ⟨t, hm⟩ := hm
  exact e_glob (v := .int i) hg hm ⟨t, rfl⟩ (fun F H => .int i) hd
end
end DL
/-! DL over the model, 14: dicts of the module. -/
namespace DL
open PySem PySem.Spec PyProof.Rows L2
/-- a record as it was written -/
inductive GEs : List DictEntry → List (D × D) → Prop
  | nil : GEs [] []
  | cons {e : DictEntry} {es : List DictEntry} {x : Str} {t : Tok} {d : D} {v : V} {l : List Nat} {kvs : List (D × D)} (hk : e.key = .str x t) (hl : unS x = l) (r : RelV v e.val) (rd : ∀ K F H, RepD K F H v d) : GEs es kvs → GEs (e :: es) ((.str l, d) :: kvs)
theorem GEs.int {e : DictEntry} {es : List DictEntry} {x : Str} {t tk : Tok} {i : Int} {l : List Nat} {kvs : List (D × D)} (hk : e.key = .str x t) (hl : unS x = l) (hv : e.val = .int i tk) (r : GEs es kvs) : GEs (e :: es) ((.str l, .int i) :: kvs) :=
  .cons (v := .int i) hk hl ⟨tk, hv⟩ (fun _ _ _ => .int i) r
def GDict (K : PySem.W.Frag) (w : World) (d : Addr) (kvs : List (D × D)) : Prop := ∃ es n, KDict K w d es n ∧ GEs es.toList kvs
theorem GEs.find : ∀ {es : List DictEntry} {kvs : List (D × D)} (z : Str), GEs es kvs → (es.find? (·.key.isStr z) = none ∧ dget kvs (.str (unS z)) = none) ∨
    ∃ e d v, es.find? (·.key.isStr z) = some e ∧ dget kvs (.str (unS z)) = some d ∧ RelV v e.val ∧ ∀ K F H, RepD K F H v d
  | _, _, z, .nil => .inl ⟨rfl, rfl⟩
  | _, _, z, .cons (e := e) (x := x) (d := d) (v := v) hk hl r rd t => by
    subst hl
    by_cases h : x = z
    · subst h
      refine .inr ⟨e, d, v, ?_, dget_pos rfl, r, rd⟩
      rw [List.find?_cons, hk]
      simp [Value.isStr]
    · have h1 : e.key.isStr z = false := by rw [hk]; simpa [Value.isStr] using h
      have h2 : ¬ (D.str (unS x) = D.str (unS z)) := fun q => h (unS_inj (by injection q))
      rw [List.find?_cons, h1, dget_neg (p := (D.str (unS x), d)) h2]
      exact GEs.find z t
theorem GEs.noRef : ∀ {es : List DictEntry} {kvs : List (D × D)}, GEs es kvs → es.any (·.refKey) = false
  | _, _, .nil => rfl
  | _, _, .cons (e := e) hk hl r rd t => by
    rw [List.any_cons, t.noRef]
    unfold DictEntry.refKey
    rw [hk]
    rfl
theorem GDict.look {K : PySem.W.Frag} {w : World} {a : Addr} {kvs : List (D × D)} (g : GDict K w a kvs) (z : Str) : ∃ es n r, KDict K w a es n ∧ PySem.W.nsIn K a z = some r ∧
    ((r = none ∧ dget kvs (.str (unS z)) = none) ∨ ∃ u d v, r = some u ∧ dget kvs (.str (unS z)) = some d ∧ RelV v u ∧ ∀ K F H, RepD K F H v d) := by
  obtain ⟨es, n, k, ge⟩ := g
  rcases ge.find z with ⟨h1, h2⟩ | ⟨e, d, v, h1, h2, h3, h4⟩
  · refine ⟨es, n, none, k, ?_, .inl ⟨rfl, h2⟩⟩
    unfold PySem.W.nsIn
    rw [k.at_]
    simp only [h1, ge.noRef]
    rfl
  · refine ⟨es, n, some e.val, k, ?_, .inr ⟨_, d, v, rfl, h2, h3, h4⟩⟩
    unfold PySem.W.nsIn
    rw [k.at_]
    simp only [h1]
section
variable {clsV : Nat → Value} {X : Cx} {W : WX} {a : Expr} {ma : Sem Opd} {pos p : Pos} {x : Str} {kvs : List (D × D)} {d : Addr}
def inGR (K : PySem.W.Frag) (w : World) : R2 := fun x y H Q => ∃ (d : Addr) (es : Array DictEntry) (n : Nat) (z : Str) (r : Option Value), KDict K w d es n ∧ x = .str z ∧ y = .ref d ∧ PySem.W.nsIn K d z = some r ∧ Q (.bl r.isSome) H
def ninGR (K : PySem.W.Frag) (w : World) : R2 := fun x y H Q => ∃ (d : Addr) (es : Array DictEntry) (n : Nat) (z : Str) (r : Option Value), KDict K w d es n ∧ x = .str z ∧ y = .ref d ∧ PySem.W.nsIn K d z = some r ∧ Q (.bl (!r.isSome)) H
theorem op_inGD : OpR X (compareOp .In) (inGR X.K X.w) := by
  intro pins s σ H x y v u Q I rx ry ⟨d, es, n, z, r, k, h⟩
  exact op_in_kd k pins s σ H x y v u Q I rx ry ⟨z, r, h⟩
theorem op_ninGD : OpR X (compareOp .NotIn) (ninGR X.K X.w) := by
  intro pins s σ H x y v u Q I rx ry ⟨d, es, n, z, r, k, h⟩
  exact op_notIn_kd k pins s σ H x y v u Q I rx ry ⟨z, r, h⟩
theorem inG_of (g : GDict X.K X.w d kvs) {F : Addr → Prop} {H : Hp} {v : V} {dd : D} {c : Bool} {Q : VK} (r : RdR X.K F H v dd) (hc : inG kvs dd = some c) (k : Q (.bl c) H) : inGR X.K X.w v (.ref d) H Q := by
  cases dd <;> simp only [inG, reduceCtorEq, Option.some.injEq] at hc
  subst hc
  rw [r.str]
  obtain ⟨es, n, o, k1, k2, k3⟩ := g.look (mkS _)
  refine ⟨d, es, n, _, o, k1, rfl, rfl, k2, ?_⟩
  rw [unS_mkS] at k3
  rcases k3 with ⟨rfl, q⟩ | ⟨u, dd, v, rfl, q, _⟩ <;> (rw [q] at k; exact k)
theorem ninG_of (g : GDict X.K X.w d kvs) {F : Addr → Prop} {H : Hp} {v : V} {dd : D} {c : Bool} {Q : VK} (r : RdR X.K F H v dd) (hc : ninG kvs dd = some c) (k : Q (.bl c) H) : ninGR X.K X.w v (.ref d) H Q := by
  cases dd <;> simp only [ninG, reduceCtorEq, Option.some.injEq] at hc
  subst hc
  rw [r.str]
  obtain ⟨es, n, o, k1, k2, k3⟩ := g.look (mkS _)
  refine ⟨d, es, n, _, o, k1, rfl, rfl, k2, ?_⟩
  rw [unS_mkS] at k3
  rcases k3 with ⟨rfl, q⟩ | ⟨u, dd, v, rfl, q, _⟩ <;> (rw [q] at k; exact k)
theorem t_inG (g : GDict X.K X.w d kvs) (hm : X.mg x = some (.ref d)) (hg : Gl X x) (ha : EO clsV W X a ma) (hb : behindInMarks .In (.Name x p) = false := by rfl) (hd : (x == ("__debug__" : Str)) = false := by decide) : ET clsV W X (.Compare a [.In] [.Name x p] pos) (s1 ma (inG kvs)) :=
  PT.imp (pt_cmpR op_inGD ha (pe_glob (v := .ref d) hg hm rfl hd) hb) fun σ H Q h => wp_s1 (r := fun x H1 => inGR X.K X.w x (.ref d) H1 fun x H' => ∃ k, x = .bl k ∧ Q k H') back_E (fun _ _ q => q) h fun F H2 own ρ v dd c er r1 hc k =>
    inG_of g r1 hc ⟨c, rfl, k c F H2 own er Stp.refl rfl⟩
theorem t_ninG (g : GDict X.K X.w d kvs) (hm : X.mg x = some (.ref d)) (hg : Gl X x) (ha : EO clsV W X a ma) (hb : behindInMarks .NotIn (.Name x p) = false := by rfl) (hd : (x == ("__debug__" : Str)) = false := by decide) : ET clsV W X (.Compare a [.NotIn] [.Name x p] pos) (s1 ma (ninG kvs)) :=
  PT.imp (pt_cmpR op_ninGD ha (pe_glob (v := .ref d) hg hm rfl hd) hb) fun σ H Q h => wp_s1 (r := fun x H1 => ninGR X.K X.w x (.ref d) H1 fun x H' => ∃ k, x = .bl k ∧ Q k H') back_E (fun _ _ q => q) h fun F H2 own ρ v dd c er r1 hc k =>
    ninG_of g r1 hc ⟨c, rfl, k c F H2 own er Stp.refl rfl⟩
theorem e_inG (g : GDict X.K X.w d kvs) (hm : X.mg x = some (.ref d)) (hg : Gl X x) (ha : EO clsV W X a ma) (hb : behindInMarks .In (.Name x p) = false := by rfl) (hd : (x == ("__debug__" : Str)) = false := by decide) : EC clsV W X (.Compare a [.In] [.Name x p] pos) (sBl (s1 ma (inG kvs))) :=
  PE.imp (pe_cmpR op_inGD ha (pe_glob (v := .ref d) hg hm rfl hd) hb) fun σ H Q h => wp_s1 (r := fun x H1 => inGR X.K X.w x (.ref d) H1 Q) back_E (fun _ _ q => q) h.sBl fun F H2 own ρ v dd c er r1 hc k =>
    inG_of g r1 hc (k c F H2 own er Stp.refl rfl)
theorem e_ninG (g : GDict X.K X.w d kvs) (hm : X.mg x = some (.ref d)) (hg : Gl X x) (ha : EO clsV W X a ma) (hb : behindInMarks .NotIn (.Name x p) = false := by rfl) (hd : (x == ("__debug__" : Str)) = false := by decide) : EC clsV W X (.Compare a [.NotIn] [.Name x p] pos) (sBl (s1 ma (ninG kvs))) :=
  PE.imp (pe_cmpR op_ninGD ha (pe_glob (v := .ref d) hg hm rfl hd) hb) fun σ H Q h => wp_s1 (r := fun x H1 => ninGR X.K X.w x (.ref d) H1 Q) back_E (fun _ _ q => q) h.sBl fun F H2 own ρ v dd c er r1 hc k =>
    ninG_of g r1 hc (k c F H2 own er Stp.refl rfl)
/-- D[k] -/
theorem e_ixG (g : GDict X.K X.w d kvs) (hm : X.mg x = some (.ref d)) (hg : Gl X x) (hb : EO clsV W X a ma) (hs : PlainIx a := by intro _ _; rfl) (hd : (x == ("__debug__" : Str)) = false := by decide) : EC clsV W X (.Subscript (.Name x p) a pos) (s1 ma (ixG kvs)) :=
  PE.imp (pe_ix ix_kdict (pe_glob (v := .ref d) hg hm rfl hd) hb hs) fun σ H Q h => wp_s1 (r := fun y H2 => rIxD X.K X.w (.ref d) y H2 Q) back_C (fun _ _ q => q) h fun F H2 own ρ v dd c er r1 hc k => by
    cases dd <;> simp only [ixG, reduceCtorEq, Option.map_eq_some_iff] at hc
    obtain ⟨d1, hc, rfl⟩ := hc
    rw [r1.str]
    obtain ⟨es, n, o, k1, k2, k3⟩ := g.look (mkS _)
    rw [unS_mkS] at k3
    rcases k3 with ⟨rfl, q⟩ | ⟨u, d2, v2, rfl, q, rv, rd⟩
    · rw [q] at hc; cases hc
    · rw [q] at hc
      cases hc
      exact ⟨d, _, v2, rfl, rfl, ⟨es, n, u, k1.at_, k1.lit, k2, rv⟩, k v2 F H2 own er Stp.refl (rd _ _ _)⟩
end
end DL
/-! An own exception SetError(ValueError) with the fields at and name, and its heirs, whose __init__ says super().__init__(..). -/
namespace PySem
namespace ExSet
open PySem.W PySem.Calls PyProof.Rows PySem.HandSPX
/-! ### super() in a method, plain heaps -/
/-- what is there of the module -/
structure ModH (K : Frag) (mg : Str → Option Value) (h : Heap) : Prop where
  kin : K.In h
  glob : h.Ns mainGlobals mg
  blt : ∃ mb, h.Ns builtinsNs mb ∧ mb "super" = bootBuiltins "super"
  lim : h.NoLimit
theorem ModH.keeps {K : Frag} {mg : Str → Option Value} {h h' : Heap} (M : ModH K mg h) (k : ∀ b o, h.get? b = some o → h'.get? b = some o) : ModH K mg h' :=
  ⟨M.kin.keeps k, M.glob.keeps k, M.blt.imp fun _ q => ⟨q.1.keeps k, q.2⟩, M.lim.keeps k⟩
section
variable {prog : Program} {w : World} {A : Around} {E : Value → Shared → Prop} {R : Result → Shared → Prop} {s : Shared} {K : Frag} {mg m : Str → Option Value}
theorem su_base {body : List Stmt} {q : Str} {scope : Scope} {p0 p1 : Pos} {attr : Str} {whole : Sem Value} {fd : FuncData} {ar : Arg} {vs : Array Value} {file : Str} {tf : Tok} {oc ccl cl : Value} {od cdd cld : Option Addr} {osl ccs csl : Array (Option Value)} {cdD : ClassData} {L f cda cc D x C : Addr} {ox : Obj} {odx : Option Obj} {Q : Value → Shared → Prop}
    (M : ModH K mg s.heap) (hns : s.heap.Ns L m) (hf : K.lookup f = some ⟨oc, od, .func fd, osl⟩) (hp : (fd.params.posonlyargs ++ fd.params.args).head? = some ar) (hv : m ar.arg = some (.ref x)) (I : InstAt s.heap x ox C odx)
    (hcode : K.lookup cda = some ⟨ccl, cdd, .fields vs, ccs⟩) (hvs : vs[2]? = some (.str file tf)) (hfile : ((prog.main.file : Str) == file) = true)
    (hcell : K.lookup cc = some ⟨cl, cld, .cell (some (.ref D)), csl⟩) (hD : clsIn K D = some cdD) (hsub : mroIn K C (.ref D) = some true) (hsuper : mg "super" = none)
    (hat : (attr == ("__class__" : Str)) = false) (hks : scope.names.lookup ("super" : Str) = some .globalImplicit) (hkc : scope.names.lookup ("__class__" : Str) = some .free) (hka : scope.names.lookup ar.arg = some .local) (hk : scope.kind = .function)
    (htop : (prog.main.scope.names.lookup ("super" : Str)).isSome = false) (hboot : bootBuiltins "super" = some (.type "super"))
    (h : ∀ h', h'.get? s.heap.objs.size = some (ks_superObj D x C) → (∀ y o, s.heap.get? y = some o → h'.get? y = some o) → Q (.ref s.heap.objs.size) { s with heap := h' }) :
    _root_.PySem.wpAt (model prog w) A (.func body (ksEnv q scope L f (.ref cda) cc)) (attributeBase (.Call (.Name "super" p0) [] [] p1) attr (ksEnv q scope L f (.ref cda) cc) whole) Q E s := by
  have X := M.kin
  obtain ⟨mb, hb1, hb2⟩ := M.blt
  have hg := M.glob
  obtain ⟨hh, g, d, t, os⟩ := s
  obtain ⟨oD, hD1, hD2⟩ : ∃ oD, hh.get? D = some oD ∧ oD.data = .cls cdD := by
    unfold clsIn at hD
    split at hD
    · rename_i c d cd' sl ho
      cases hD
      exact ⟨_, X _ _ ho, rfl⟩
    · cases hD
  refine ks_wpAt_super_base (env := ksEnv q scope L f (.ref cda) cc) hks hkc hat rfl (X _ _ hf) rfl hp rfl (X _ _ hcode) rfl hvs hfile htop ?_
  refine ks_loadName_global hk hks (loadGlobal_builtin (env := ksEnv q scope L f (.ref cda) cc) hg hsuper hb1 (hb2.trans hboot) ⟨rfl, ?_⟩)
  refine wpAny_loadName_free hk hkc rfl ⟨_, X _ _ hcell, rfl⟩ ?_
  refine wpAny_loadName_local hk hka hns hv ?_
  refine ks_wpAny_isType_cls hD1 hD2 ⟨rfl, ?_⟩
  refine ks_wpAny_call_super hD1 hD2 I.at_ I.cls (fun c e => ?_) (looks_mroIn X hsub) (fun h' e k => h h' e k)
  have := I.no
  unfold notCls at this
  rw [e] at this
  exact Bool.noConfusion this
/-- ValueError.__init__ through super -/
theorem su_getVE {so D x C : Addr} {ox : Obj} {odx : Option Obj} {pl : Sem Bool} {Q : Value × List Value → Shared → Prop} (X : K.In s.heap) (hso : s.heap.get? so = some (ks_superObj D x C)) (I : InstAt s.heap x ox C odx) (ho : nsIn K cStatics "thirdparty.any" = some none)
    (hm : ks_superIn K C D "__init__" = some (some (.builtin "ValueError.__init__"))) (hB : subIn K (.ref C) (.type "ValueError") = some true)
    (h : Q (.ref s.heap.objs.size, []) { s with heap := s.heap.push (kxs_mw "ValueError.__init__" x), toks := s.toks + 1 }) : wpAny (model prog w) A (getMethod (.ref so) "__init__" pl) Q E s := by
  have hI : Looks (model prog w) s.heap (isInstance (.ref x) (.type "ValueError")) true := I.type.andThen (looks_subIn X hB)
  obtain ⟨hh, g, d, t, os⟩ := s
  cases hc : clsIn K C with
  | none => unfold ks_superIn at hm; rw [hc] at hm; cases hm
  | some cd =>
    unfold ks_superIn at hm
    rw [hc] at hm
    refine kxs_getMethod kxs_ValueError hso (looks_opaque X ho) (l₀ := cd.mro) ?_ rfl X hm hI (ks_ne X I hc) (by decide) h
    exact fun A Q E s k q => wpAny_bind ((looks_clsIn X hc) A _ E s k (wpAny_pure q))
/-- an own __init__ through super -/
theorem su_getFn {so D x C f2 : Addr} {ox : Obj} {odx : Option Obj} {pl : Sem Bool} {Q : Value × List Value → Shared → Prop} (X : K.In s.heap) (hso : s.heap.get? so = some (ks_superObj D x C)) (I : InstAt s.heap x ox C odx) (ho : nsIn K cStatics "thirdparty.any" = some none)
    (hm : ks_superIn K C D "__init__" = some (some (.ref f2))) (ht : typeIn K (.ref f2) = some (.type "function"))
    (h : Q (.ref s.heap.objs.size, []) { s with heap := s.heap.push (methodObj (.ref f2) (.ref x)), toks := s.toks + 1 }) : wpAny (model prog w) A (getMethod (.ref so) "__init__" pl) Q E s := by
  obtain ⟨hh, g, d, t, os⟩ := s
  cases hc : clsIn K C with
  | none => unfold ks_superIn at hm; rw [hc] at hm; cases hm
  | some cd =>
    unfold ks_superIn at hm
    rw [hc] at hm
    obtain ⟨of, hof, hofc⟩ : ∃ of, hh.get? f2 = some of ∧ of.cls = .type "function" := by
      have ht' : (K.lookup f2).map (·.cls) = some (.type "function") := ht
      cases z : K.lookup f2 with
      | none => rw [z] at ht'; cases ht'
      | some of => rw [z] at ht'; exact ⟨of, X _ _ z, Option.some.inj ht'⟩
    refine ks_wpAny_getMethod_super hso (looks_opaque X ho) (l₀ := cd.mro) ?_ rfl X hm hof hofc (ks_ne X I hc) (by decide) h
    exact fun A Q E s k q => wpAny_bind ((looks_clsIn X hc) A _ E s k (wpAny_pure q))
end
section
variable {prog : Program} {w : World} {A : Around} {E : Value → Shared → Prop} {h : Heap} {g : Array GenState} {d : Drawn} {t : Nat} {os : OsState}
variable {nm q : Str} {C N : Addr} {bs bm : List Value} {hdct : Bool} {sn : List Str} {sub : List Value} {ab : Bool} {col : Option Bool} {dd : Option Addr} {k0 k1 k2 k3 k5 : Option Value}
/-- the wrapper is called: the args are laid anew -/
theorem call_mw {u e t0 : Addr} {rest : List Value} {Q : Value → Shared → Prop}
    (hC : h.get? C = some (excClassObj nm q C N bs bm hdct sn sub ab col dd k0 k1 k2 k3 k5 "ValueError.__new__")) (he : h.get? e = some (HandSPX.excO C t0)) (hu : h.get? u = some (kxs_mw "ValueError.__init__" e)) (hrest : rest.length ≤ sizeLine)
    (hq : ∀ h' t1, (∀ b o, b ≠ e → h.get? b = some o → h'.get? b = some o) → h'.get? e = some (HandSPX.excO C t1) → Q .none ⟨h', g, d, t, os⟩) :
    wpAny (model prog w) A (call (.ref u) rest) Q E ⟨h, g, d, t, os⟩ := by
  refine wpAny_call (codeAny_of_tree ?_)
  show wpAny _ A.in1 (callAny (.ref u) ⟨rest, []⟩) _ _ _
  simp only [callAny]
  refine wpAny_bind (wpAny_load hu ?_)
  simp only [kxs_mw, show (Value.type "method-wrapper" == Value.type "method" || Value.type "method-wrapper" == Value.type "builtin_function_or_method" || Value.type "method-wrapper" == Value.type "method-wrapper") = true by decide, if_true]
  refine W.KFB.if_so (by decide) ?_
  refine wpAny_bind (ESX.check_bound F.excBase_ValueError hC he rfl ?_)
  refine wpAny_bind (wpAny_pure (wpAny_pure ?_))
  refine ⟨Code.quiet_builtin _ (by decide +kernel), codeAny_builtin F.excBase_ValueError.initEntry ?_⟩
  rw [Around.under_plainId F.excBase_ValueError.init.plain _]
  wp_walk
  refine hq _ h.objs.size (fun b o hb ho => ?_) ?_
  · rw [Heap.get?_update_other _ _ (Ne.symm hb)]
    exact Heap.get?_push_of_some _ ho
  · rw [Heap.get?_update_self _ (Heap.get?_push_of_some _ he) rfl]
    rfl
end

/-! ### the texts -/
def seA (p1 p2 p3 p4 : Pos) : Arguments := { posonlyargs := [], args := [{ arg := "self", annotation := none, pos := p1 }, { arg := "at", annotation := none, pos := p2 }, { arg := "name", annotation := none, pos := p3 }], vararg := none, kwonlyargs := [], kw_defaults := [], kwarg := none, defaults := [.Constant (.str "SetError") 0 p4] }
def suCall (args : List Expr) (q0 q1 q2 q3 q4 : Pos) : Stmt := .Expr (.Call (.Attribute (.Call (.Name "super" q0) [] [] q1) "__init__" q2) args [] q3) q4
def setS (f : Str) (q0 q1 q2 q3 : Pos) : Stmt := .Assign [.Attribute (.Name "self" q0) f q1] (.Name f q2) q3
def seB (q0 q1 q2 q3 q4 q5 r0 r1 r2 r3 u0 u1 u2 u3 : Pos) : List Stmt := [suCall [.Name "at" q5] q0 q1 q2 q3 q4, setS "at" r0 r1 r2 r3, setS "name" u0 u1 u2 u3]
def seS : Scope := { kind := .function, names := [(PySem.Str.ofString "self", .local), (PySem.Str.ofString "at", .local), (PySem.Str.ofString "name", .local), (PySem.Str.ofString "__class__", .free), (PySem.Str.ofString "super", .globalImplicit)], isGenerator := false, isCoroutine := false, more := [] }
def heA (p1 p2 : Pos) : Arguments := { posonlyargs := [], args := [{ arg := "self", annotation := none, pos := p1 }, { arg := "at", annotation := none, pos := p2 }], vararg := none, kwonlyargs := [], kw_defaults := [], kwarg := none, defaults := [] }
def heB (n : Str) (q0 q1 q2 q3 q4 q5 q6 : Pos) : List Stmt := [suCall [.Name "at" q5, .Constant (.str n) 0 q6] q0 q1 q2 q3 q4]
def heS : Scope := { kind := .function, names := [(PySem.Str.ofString "self", .local), (PySem.Str.ofString "at", .local), (PySem.Str.ofString "__class__", .free), (PySem.Str.ofString "super", .globalImplicit)], isGenerator := false, isCoroutine := false, more := [] }
/-- a method's code and cell: its file, its class -/
structure MethAt (K : Frag) (P : Program) (fI cda cc D : Addr) (qual : Str) (params : Arguments) (body : List Stmt) (scope : Scope) (dV : Value) : Prop where
  fn : ∃ (oc : Value) (od : Option Addr) (doc pm : Value) (an : Option Addr) (ct : Value) (osl : Array (Option Value)), K.lookup fI = some ⟨oc, od, .func (ksFn "__init__" qual params body scope dV .none doc pm an (.ref cda) ct cc), osl⟩
  cd : codeIn K (.ref cda) qual = true
  code : ∃ (ccl : Value) (cdd : Option Addr) (vs : Array Value) (ccs : Array (Option Value)) (file : Str) (tf : Tok), K.lookup cda = some ⟨ccl, cdd, .fields vs, ccs⟩ ∧ vs[2]? = some (.str file tf) ∧ ((P.main.file : Str) == file) = true
  cell : ∃ (cl : Value) (cld : Option Addr) (csl : Array (Option Value)), K.lookup cc = some ⟨cl, cld, .cell (some (.ref D)), csl⟩
  cls : ∃ cdD, clsIn K D = some cdD
  typ : typeIn K (.ref fI) = some (.type "function")
/-- a class over ValueError -/
structure VeCls (K : Frag) (C : Addr) : Prop where
  cls : ∃ nm q N bs bm sn sub ab col dd k0 k1 k2 k3 k5, K.lookup C = some (excClassObj nm q C N bs bm true sn sub ab col dd k0 k1 k2 k3 k5 "ValueError.__new__") ∧ refsVE bm = true
  sa : findIn K (.ref C) "__setattr__" = some (some (.builtin "object.__setattr__"))
  noA : findIn K (.ref C) "at" = some none
  noN : findIn K (.ref C) "name" = some none
  ve : subIn K (.ref C) (.type "ValueError") = some true
  any : nsIn K cStatics "thirdparty.any" = some none
/-- what the __init__ leaves of a fresh exception at x -/
structure InitEnd (h h' : Heap) (x C dx t1 : Addr) (v n : Value) : Prop where
  keep : ∀ b o, b ≠ x → h.get? b = some o → h'.get? b = some o
  obj : h'.get? x = some { cls := .ref C, dict := some dx, data := .fields #[.ref t1, .none, .none, .none, .bool false, .none] }
  dbig : h.objs.size ≤ dx
  dne : dx ≠ x
  ns : h'.Ns1 dx (fun y => if y = "name" then some n else if y = "at" then some v else none)
theorem ldM {M : Model} {s : Shared} {name : Str} {scope : Scope} {L a cc : Addr} {cd : Value} {m : Str → Option Value} {x : Str} {pos : Pos} {v : Value} {Q : Value → Shared → Prop} {A : Around} {E : Value → Shared → Prop} (hn : s.heap.Ns L m) (hv : m x = some v) (h : Q v s)
    (hk : scope.kind = .function := by rfl) (hl : (ksEnv name scope L a cd cc).kindOf x = some .local := by rfl) (hd : (x == ("__debug__" : Str)) = false := by decide) :
    wpAny M A (eval (.Name x pos) (ksEnv name scope L a cd cc)) Q E s := wpAny_Name (wpAny_loadName_local hk hl hn hv h) hd
theorem su_he {o : Expr} {name : Str} {apos pos : Pos} {args : List Expr} {env : Env} (hline : (apos.endLine == pos.line) = true) (hfew : methodCallForm (args.length + 0) (backTo pos (starEach args env)) (backToKw pos (keywordEach [] env)) = true) :
    eval (.Call (.Attribute o name apos) args [] pos) env = (do
      let ov ← attributeBase o name env (eval o env)
      standAt apos.atName
      let (f, first) ← holding [ov] (getMethod ov name (do return (← importBound o env).getD true))
      callWith pos f first (backTo pos (starEach args env)) []) := by
  have hpos : methodCallPos true o env apos pos = pure pos := by unfold methodCallPos; simp [hline]
  rw [arm_eval_Call]
  unfold methodCall calleeOf
  have e : methodCallForm (args.length + ([] : List Keyword).length) (backTo pos (starEach args env)) (backToKw pos (keywordEach [] env)) = true := hfew
  simp only [e, if_true, hpos, pure_bind]
  rfl
section
variable {prog : Program} {w : World} {A : Around} {E : Value → Shared → Prop} {R : Result → Shared → Prop} {s : Shared} {K : Frag} {mg : Str → Option Value} {D C fI cda cc : Addr}
theorem ns_but {h h' : Heap} {L x : Addr} {m : Str → Option Value} (hn : h.Ns L m) (hx : L ≠ x) (k : ∀ b o, b ≠ x → h.get? b = some o → h'.get? b = some o) : h'.Ns L m := by
  obtain ⟨o, es, ep, e, r⟩ := hn
  exact ⟨o, es, ep, k _ _ hx e, r⟩
/-- SetError.__init__(x, v, n), x fresh, of a class over SetError -/
theorem se_init {p1 p2 p3 p4 q0 q1 q2 q3 q4 q5 r0 r1 r2 r3 u0 u1 u2 u3 : Pos} {dT : Addr} {oT : Obj} {dits : Array Value} {dn : Nat} (T : MethAt K prog fI cda cc D "SetError.__init__" (seA p1 p2 p3 p4) (seB q0 q1 q2 q3 q4 q5 r0 r1 r2 r3 u0 u1 u2 u3) seS (.ref dT)) (hdT : K.lookup dT = some oT) (hdD : oT.data = .seq dits dn) (hdn : dits.size = 1) (V : VeCls K C)
    (hl : (q2.endLine == q3.line) = true) (hsub : mroIn K C (.ref D) = some true) (hsu : ks_superIn K C D "__init__" = some (some (.builtin "ValueError.__init__"))) (hsuper : mg "super" = none) (htop : (prog.main.scope.names.lookup ("super" : Str)).isSome = false)
    {x t0 : Addr} {v n : Value} (M : ModH K mg s.heap) (hx : s.heap.get? x = some (excO C t0)) (hnx : K.lookup x = none) (hroom : A.depth < recursionLimit)
    (hq : ∀ h' tk dx t1, InitEnd s.heap h' x C dx t1 v n → R (.ok (.ret .none)) { s with heap := h', toks := tk }) :
    codeAny (model prog w) A (.call (.ref fI) ⟨[.ref x, v, n], []⟩) R s := by
  obtain ⟨d0, rfl⟩ : ∃ d0, dits = #[d0] := Array.size_eq_one_iff.mp hdn
  obtain ⟨oc, od, doc, pm, an, ct, osl, ho⟩ := T.fn
  obtain ⟨ccl, cdd, vs, ccs, file, tf, hco, hvs, hfile⟩ := T.code
  obtain ⟨cl, cld, csl, hcell⟩ := T.cell
  obtain ⟨cdD, hD⟩ := T.cls
  obtain ⟨nm, q, N, bs, bm, sn, sub, ab, col, dd, k0, k1, k2, k3, k5, hC, hbm⟩ := V.cls
  have hcl : clsIn K C = some { name := nm, bases := bs, mro := .ref C :: bm, ns := N, qualname := q, hasDict := true, slotNames := sn, subclasses := sub, abstract := ab, collection := col, hasDel := false } := by unfold clsIn; rw [hC] <;> rfl
  have X := M.kin
  refine ks_codeAny_call_defAt (fd := ksFn "__init__" "SetError.__init__" (seA p1 p2 p3 p4) (seB q0 q1 q2 q3 q4 q5 r0 r1 r2 r3 u0 u1 u2 u3) seS (.ref dT) .none doc pm an (.ref cda) ct cc) (binds := [("self", .ref x), ("at", v), ("name", n)]) hroom (X _ _ ho) rfl M.lim (codeRec_of X T.cd) rfl
    (BindsTo.of_defaults (T := dT) (o := oT) (items := #[d0]) (n := dn) rfl (X _ _ hdT) hdD (by first | rfl | with_unfolding_all rfl) (by first | rfl | with_unfolding_all rfl)) (show ∀ x ∈ seS.names, x.2 ≠ .cell by decide) (locs rfl) (fun h₁ hns hk₁ => ?_) rfl rfl rfl
  have M₁ := M.keeps hk₁
  have hx₁ := hk₁ _ _ hx
  have z1 : s.heap.objs.size < h₁.objs.size := hns.lt
  have hLx : s.heap.objs.size ≠ x := Nat.ne_of_gt (Heap.lt_size hx)
  -- super().__init__(at)
  refine ks_wpAt_execs_cons (ks_wpAt_Expr_any (ks_wpAt_MethodCall (su_base (ox := excO C t0) (odx := none) M₁ hns ho rfl (by first | rfl | with_unfolding_all rfl | kernel_rfl) ⟨hx₁, rfl, rfl, trivial⟩ hco hvs hfile hcell hD hsub hsuper (by decide) (by rfl) (by rfl) (by rfl) rfl htop (by first | boot_by_name | rfl | kernel_rfl) fun h₂ hso hk₂ => ?_) (su_he hl (by rfl))))
  have M₂ := M₁.keeps hk₂
  have hx₂ := hk₂ _ _ hx₁
  refine su_getVE (odx := none) M₂.kin hso ⟨hx₂, rfl, rfl, trivial⟩ V.any hsu V.ve ?_
  have hns₂ := hns.keeps hk₂
  have hk₃ : ∀ b o, h₂.get? b = some o → (h₂.push (kxs_mw "ValueError.__init__" x)).get? b = some o := fun b o e => Heap.get?_push_of_some _ e
  have hns₃ := hns₂.keeps hk₃
  have hu₃ : (h₂.push (kxs_mw "ValueError.__init__" x)).get? h₂.objs.size = some (kxs_mw "ValueError.__init__" x) := Heap.get?_push_at rfl rfl
  refine kxs_callWith (i := "ValueError.__init__") (x := x) (by rfl) (evalArgs_plain (PyProof.Rows.spliced_more (ldM (v := v) hns₃ (by first | rfl | with_unfolding_all rfl | kernel_rfl) (PyProof.Rows.spliced_none ⟨hu₃, ?_⟩)) (by rfl)))
  have X₃ := M₂.kin.keeps hk₃
  refine call_mw (X₃ _ _ hC) (hk₃ _ _ hx₂) hu₃ (by rw [sizeLine_eq]; exact (by decide : 1 ≤ 16777216)) fun h₄ t1 hk₄ hx₄ => ?_
  have hkx : ∀ b o, b ≠ x → s.heap.get? b = some o → h₄.get? b = some o := fun b o hb e => hk₄ b o hb (hk₃ _ _ (hk₂ _ _ (hk₁ _ _ e)))
  have X₄ : K.In h₄ := fun a o e => hkx a o (fun z => by rw [z, hnx] at e; cases e) (X a o e)
  have hns₄ := ns_but hns₃ hLx hk₄
  have sz₄ : s.heap.objs.size < h₄.objs.size := hns₄.lt
  -- self.at = at
  refine wpAt_of_wpAny (wpAny_execs_cons (plainObj_wpAny_Assign_Attribute ?_))
  refine ldM (v := v) hns₄ (by first | rfl | with_unfolding_all rfl | kernel_rfl) (ldM (v := .ref x) hns₄ (by first | rfl | with_unfolding_all rfl | kernel_rfl) ?_)
  refine set_plain X₄ (ox := excO C t1) (od := none) ⟨hx₄, rfl, rfl, trivial⟩ V.sa ?_
  refine exc_osa X₄ hx₄ hcl (show refsVE (.ref C :: bm) = true from hbm) rfl V.noA (fun h₅ tk₅ dx hk₅ dn dne hx₅ hn₅ => ?_)
  have hkx₅ : ∀ b o, b ≠ x → s.heap.get? b = some o → h₅.get? b = some o := fun b o hb e => hk₅ b o hb (hkx b o hb e)
  have X₅ : K.In h₅ := fun a o e => hkx₅ a o (fun z => by rw [z, hnx] at e; cases e) (X a o e)
  have hns₅ := ns_but hns₄ hLx hk₅
  have wi : Within (fun y => if y = ("at" : Str) then some v else none) ["at"] := fun y hy => by
    by_cases z : y = ("at" : Str)
    · rw [z]; exact List.mem_singleton.mpr rfl
    · simp [z] at hy
  obtain ⟨oD, esD, epD, hoD, _, _⟩ := hn₅.count wi
  -- self.name = name
  refine wpAny_execs_cons (plainObj_wpAny_Assign_Attribute ?_)
  refine ldM (v := n) hns₅ (by first | rfl | with_unfolding_all rfl | kernel_rfl) (ldM (v := .ref x) hns₅ (by first | rfl | with_unfolding_all rfl | kernel_rfl) ?_)
  refine set_plain X₅ (od := some oD) ⟨hx₅, rfl, rfl, hoD⟩ V.sa ?_
  refine OEX.osa_old X₅ hx₅ hn₅ wi (by decide) hcl (show refsVE (.ref C :: bm) = true from hbm) rfl V.noN (fun h₆ tk₆ hk₆ hn₆ => ?_)
  have big : s.heap.objs.size ≤ dx := Nat.le_of_lt (Nat.lt_of_lt_of_le sz₄ dn)
  exact wpAny_execs_nil (hq h₆ tk₆ dx t1 ⟨fun b o hb e => hk₆ b o (Nat.ne_of_lt (Nat.lt_of_lt_of_le (Heap.lt_size e) big)) (hkx₅ b o hb e), hk₆ x _ (Ne.symm dne) hx₅, big, dne, hn₆⟩)
/-- X.__init__(x, v), X an heir of SetError at D2, x of the class C -/
theorem he_init {p1 p2 q0 q1 q2 q3 q4 q5 q6 : Pos} {D2 fH cdh cch f1 : Addr} {n qual : Str} (T : MethAt K prog fH cdh cch D2 qual (heA p1 p2) (heB n q0 q1 q2 q3 q4 q5 q6) heS .none) (V : VeCls K C)
    (hl : (q2.endLine == q3.line) = true) (hsub : mroIn K C (.ref D2) = some true) (hsu : ks_superIn K C D2 "__init__" = some (some (.ref f1))) (ht : typeIn K (.ref f1) = some (.type "function")) (hfn : fnIn K f1 = true) (hsuper : mg "super" = none) (htop : (prog.main.scope.names.lookup ("super" : Str)).isSome = false)
    (S : ∀ {A : Around} {R : Result → Shared → Prop} {s : Shared} {x t0 : Addr} {v n : Value}, ModH K mg s.heap → s.heap.get? x = some (excO C t0) → K.lookup x = none → A.depth < recursionLimit → (∀ h' tk dx t1, InitEnd s.heap h' x C dx t1 v n → R (.ok (.ret .none)) { s with heap := h', toks := tk }) →
      codeAny (model prog w) A (.call (.ref f1) ⟨[.ref x, v, n], []⟩) R s)
    {x t0 : Addr} {v : Value} (M : ModH K mg s.heap) (hx : s.heap.get? x = some (excO C t0)) (hnx : K.lookup x = none) (hroom : A.depth + 1 < recursionLimit)
    (hq : ∀ h' tk dx t1 u, InitEnd s.heap h' x C dx t1 v (.str n u) → R (.ok (.ret .none)) { s with heap := h', toks := tk }) :
    codeAny (model prog w) A (.call (.ref fH) ⟨[.ref x, v], []⟩) R s := by
  obtain ⟨oc, od, doc, pm, an, ct, osl, ho⟩ := T.fn
  obtain ⟨ccl, cdd, vs, ccs, file, tf, hco, hvs, hfile⟩ := T.code
  obtain ⟨cl, cld, csl, hcell⟩ := T.cell
  obtain ⟨cdD, hD⟩ := T.cls
  have X := M.kin
  refine ks_codeAny_call_defAt (fd := ksFn "__init__" qual (heA p1 p2) (heB n q0 q1 q2 q3 q4 q5 q6) heS .none .none doc pm an (.ref cdh) ct cch) (binds := [("self", .ref x), ("at", v)]) (by omega) (X _ _ ho) rfl M.lim (codeRec_of X T.cd) rfl
    (BindsTo.of_eq (by first | rfl | with_unfolding_all rfl)) (show ∀ x ∈ heS.names, x.2 ≠ .cell by decide) (locs rfl) (fun h₁ hns hk₁ => ?_) rfl rfl rfl
  have M₁ := M.keeps hk₁
  have hx₁ := hk₁ _ _ hx
  have hLx : s.heap.objs.size ≠ x := Nat.ne_of_gt (Heap.lt_size hx)
  refine ks_wpAt_execs_cons (ks_wpAt_Expr_any (ks_wpAt_MethodCall (su_base (ox := excO C t0) (odx := none) M₁ hns ho rfl (by first | rfl | with_unfolding_all rfl | kernel_rfl) ⟨hx₁, rfl, rfl, trivial⟩ hco hvs hfile hcell hD hsub hsuper (by decide) (by rfl) (by rfl) (by rfl) rfl htop (by first | boot_by_name | rfl | kernel_rfl) fun h₂ hso hk₂ => ?_) (su_he hl (by rfl))))
  have M₂ := M₁.keeps hk₂
  have hx₂ := hk₂ _ _ hx₁
  refine su_getFn (odx := none) M₂.kin hso ⟨hx₂, rfl, rfl, trivial⟩ V.any hsu ht ?_
  have hns₂ := hns.keeps hk₂
  have hk₃ : ∀ b o, h₂.get? b = some o → (h₂.push (methodObj (.ref f1) (.ref x))).get? b = some o := fun b o e => Heap.get?_push_of_some _ e
  have hns₃ := hns₂.keeps hk₃
  have M₃ := M₂.keeps hk₃
  have hu₃ : (h₂.push (methodObj (.ref f1) (.ref x))).get? h₂.objs.size = some (methodObj (.ref f1) (.ref x)) := Heap.get?_push_at rfl rfl
  refine callWith_of (P := MethP K h₂.objs.size f1 (.ref x)) (by rfl) (keeps_M hfn) (evalArgs_plain (PyProof.Rows.spliced_more (ldM (v := v) hns₃ (by first | rfl | with_unfolding_all rfl | kernel_rfl) (PyProof.Rows.spliced_more (wpAny_Constant_str (PyProof.Rows.spliced_none ⟨⟨hu₃, M₃.kin⟩, ?_⟩)) (by rfl))) (by rfl)))
  refine wpAny_call (method_call hu₃ (S M₃ (hk₃ _ _ hx₂) hnx ?_ fun h' tk dx t1 ie => ?_))
  · show A.depth + 1 < recursionLimit
    exact hroom
  · refine wpAt_of_wpAny (wpAny_execs_nil (hq h' tk dx t1 _ ⟨fun b o hb e => ie.keep b o hb (hk₃ _ _ (hk₂ _ _ (hk₁ _ _ e))), ie.obj, ?_, ie.dne, ie.ns⟩))
    exact Nat.le_trans (Nat.le_of_lt (hns₃.lt)) ie.dbig
/-- a made one -/
structure OwnMade (h h' : Heap) (e C d : Addr) (v n : Value) : Prop where
  keep : ∀ b o, h.get? b = some o → h'.get? b = some o
  new : h.objs.size ≤ e
  obj : ∃ oe vs, h'.get? e = some oe ∧ oe.cls = .ref C ∧ oe.dict = some d ∧ oe.data = .fields vs ∧ vs[1]? = some .none
  dbig : h.objs.size ≤ d
  dne : d ≠ e
  ns : h'.Ns1 d (fun y => if y = "name" then some n else if y = "at" then some v else none)
theorem one_size (v : Value) : [v].length ≤ sizeLine := by
  rw [sizeLine_eq]
  exact (by decide : 1 ≤ 16777216)
/-- X(v), X an heir with its own __init__ -/
theorem he_made {fH : Addr} {n : Str} (V : VeCls K C) (iC : findIn K (.ref C) "__init__" = some (some (.ref fH))) (tH : typeIn K (.ref fH) = some (.type "function"))
    (S : ∀ {A : Around} {R : Result → Shared → Prop} {s : Shared} {x t0 : Addr} {v : Value}, ModH K mg s.heap → s.heap.get? x = some (excO C t0) → K.lookup x = none → A.depth + 1 < recursionLimit → (∀ h' tk dx t1 u, InitEnd s.heap h' x C dx t1 v (.str n u) → R (.ok (.ret .none)) { s with heap := h', toks := tk }) →
      codeAny (model prog w) A (.call (.ref fH) ⟨[.ref x, v], []⟩) R s)
    {v : Value} (M : ModH K mg s.heap) (hroom : A.depth + 2 < recursionLimit)
    (hq : ∀ h' tk e d u, OwnMade s.heap h' e C d v (.str n u) → R (.ok (.ret (.ref e))) { s with heap := h', toks := tk }) :
    codeAny (model prog w) A (.call (.ref C) ⟨[v], []⟩) R s := by
  obtain ⟨nm, q, N, bs, bm, sn, sub, ab, col, dd, k0, k1, k2, k3, k5, hC, hbm⟩ := V.cls
  have X := M.kin
  obtain ⟨hp, g, dr, tk, os⟩ := s
  have k : ∀ b o, hp.get? b = some o → ((hp.push (kdv_tup [v])).push (excO C hp.objs.size)).get? b = some o := fun b o e => Heap.get?_push_of_some _ (Heap.get?_push_of_some _ e)
  have hget : ((hp.push (kdv_tup [v])).push (excO C hp.objs.size)).get? (hp.objs.size + 1) = some (excO C hp.objs.size) := by heap_get
  have hnx : K.lookup (hp.objs.size + 1) = none := by
    cases e : K.lookup (hp.objs.size + 1) with
    | none => rfl
    | some o =>
      have z : hp.get? (hp.objs.size + 1) = some o := X _ _ e
      exact absurd (Nat.lt_of_succ_lt (Heap.lt_size z)) (Nat.lt_irrefl _)
  refine call_own F.excBase_ValueError (fun X => refsVE_contains X bm hbm) (X _ _ hC) (looks_findIn X iC) (fun self => bind_fn X self tH) (one_size v) ?_
  refine S (s := ⟨(hp.push (kdv_tup [v])).push (excO C hp.objs.size), g, dr, tk, os⟩) (M.keeps k) hget hnx ?_ fun h' tk' dx t1 u ie => ?_
  · show A.depth + 1 + 1 < recursionLimit
    exact hroom
  · have old : ∀ b o, hp.get? b = some o → h'.get? b = some o := fun b o e => ie.keep b o (Nat.ne_of_lt (Nat.lt_succ_of_lt (Heap.lt_size e))) (k b o e)
    have z : hp.objs.size + 1 + 1 ≤ dx := by
      have dn := ie.dbig
      first
        | (simpa only [Heap.size_push] using dn)
        | exact dn
    exact ⟨rfl, hq h' tk' (hp.objs.size + 1) dx u ⟨old, Nat.le_succ _, ⟨_, _, ie.obj, rfl, rfl, rfl, rfl⟩, Nat.le_trans (Nat.le_trans (Nat.le_succ _) (Nat.le_succ _)) z, ie.dne, ie.ns⟩⟩
end
end ExSet
end PySem
/-! DL over the model, 15: raise, try. -/
namespace DL
open PySem PySem.Spec PyProof.Rows L2
theorem exFields {v : V} {n : Str} {v' n' : Value} (r : RelV v v') (q : RelV (.str n) n') (f : Str) : RelO (List.lookup f [(("at" : Str), v), (("name" : Str), V.str n)]) (if f = "name" then some n' else if f = "at" then some v' else none) := by
  by_cases h1 : f = "at"
  · subst h1
    rw [if_neg (by decide), if_pos rfl]
    have : List.lookup ("at" : Str) [(("at" : Str), v), (("name" : Str), V.str n)] = some v := by simp [List.lookup]
    rw [this]; exact r
  · have e1 : (f == ("at" : Str)) = false := by simpa using h1
    by_cases h2 : f = "name"
    · subst h2
      rw [if_pos rfl]
      have : List.lookup ("name" : Str) [(("at" : Str), v), (("name" : Str), V.str n)] = some (.str n) := by
        simp only [List.lookup, e1]
        rw [show (("name" : Str) == ("name" : Str)) = true from beq_self_eq_true _]
      rw [this]; exact q
    · have e2 : (f == ("name" : Str)) = false := by simpa using h2
      rw [if_neg h2, if_neg h1]
      have : List.lookup f [(("at" : Str), v), (("name" : Str), V.str n)] = none := by simp [List.lookup, e1, e2]
      rw [this]; trivial
/-- a class over SetError is called with one value -/
structure HeCls (P : Program) (w : World) (K : PySem.W.Frag) (mg : Str → Option Value) (x : Str) (C : Addr) (n : Str) : Prop where
  gC : mg x = some (.ref C)
  kC : PySem.W.keepIn K (.ref C) = true
  exC : PySem.W.subIn K (.ref C) (.type "BaseException") = some true
  tyC : PySem.W.typeIn K (.ref C) = some (.type "type")
  made : ∀ {A : Around} {R : Result → Shared → Prop} {s : Shared} {v : Value}, PySem.ExSet.ModH K mg s.heap → A.depth + 2 < recursionLimit → (∀ h' tk e d u, PySem.ExSet.OwnMade s.heap h' e C d v (.str n u) → R (.ok (.ret (.ref e))) { s with heap := h', toks := tk }) →
    codeAny (model P w) A (.call (.ref C) ⟨[v], []⟩) R s
section
variable {X : Cx} {C : Addr} {x n : Str}
/-- X(e) -/
def tMkX (C : Addr) (n : Str) (te : TE) : St → Hp → XK → Prop := fun σ H Q => te σ H fun x H1 => ∃ v, [x] = [v] ∧ ∀ d, H1 d = none → Q (.ref C) (some d) (upd H1 d (.xd [(("at" : Str), v), (("name" : Str), V.str n)]))
theorem pmk_he {a : Expr} {te : TE} {p pos : Pos} {k : Nat} (T : HeCls X.prog X.w X.K X.mg x C n) (hr : Room k X.A) (hk : 2 ≤ k) (ha : PE X a te) (hg : Gl X x) (hd : (x == ("__debug__" : Str)) = false := by decide)
    (he : starEach (a :: []) X.env = (false, eval a X.env) :: starEach [] X.env := by rfl) (hpl : (backTo pos (starEach [] X.env)).any (·.1) = false := by rfl) :
    PMk X (.Call (.Name x p) [a] [] pos) (tMkX C n te) := by
  intro pins s σ H Q I h
  refine wpAny_Call_Name_kw (ld_glob I hg T.gC ?_ hd)
  refine PySem.W.callWith_K (h₀ := X.base) I.ok.mod.kin T.kC (thn ((pa_cons ha pa_nil he).run pos pins s σ H (fun vs H1 => ∃ v, vs = [v] ∧ ∀ d, H1 d = none → Q (.ref C) (some d) (upd H1 d (.xd [(("at" : Str), v), (("name" : Str), V.str n)]))) I h) fun us s1 hh => ?_) he hpl
  obtain ⟨vs, H1, I1, r1, v, ev, q1⟩ := hh
  subst ev
  refine ⟨I1.kIn, ?_⟩
  cases r1 with
  | cons rv rn =>
    rename_i v' us'
    cases rn
    show wpAny _ _ (call (.ref C) [v']) _ _ _
    have hM : PySem.ExSet.ModH X.K X.mg s1.heap := ⟨I1.kIn, I1.ok.mod.glob.keeps I1.bk, I1.ok.mod.blt.imp fun mb q => ⟨q.1.keeps I1.bk, q.2 _ (by decide)⟩, I1.nolimit⟩
    obtain ⟨hp, g, dr, tk, os⟩ := s1
    refine wpAny_call (T.made hM (by have := hr.dp; omega) fun h' tk' e d u M => ?_)
    show MkP X pins σ Q (.ref e) ⟨h', g, dr, tk', os⟩
    obtain ⟨oe, fv, hoe, hc, hd, hdat, h1⟩ := M.obj
    have hns := M.ns
    obtain ⟨G', g1, g2⟩ := restrict h' fun b => decide (b ≠ e)
    have gk : ∀ b, b ≠ e → G'.get? b = h'.get? b := fun b hb => g1 b (decide_eq_true hb)
    have ge : G'.get? e = none := g2 e (by simp)
    have old : ∀ b o, hp.get? b = some o → G'.get? b = some o := fun b o q => (gk b (Nat.ne_of_lt (Nat.lt_of_lt_of_le (Heap.lt_size q) M.new))).trans (M.keep b o q)
    have ob : ObjOk X.prog X.w (upd H1 d (.xd [(("at" : Str), v), (("name" : Str), V.str n)])) G' d (.xd [(("at" : Str), v), (("name" : Str), V.str n)]) :=
      ⟨_, hns.at (fun o q => (gk d M.dne).trans q), fun f => exFields rv ⟨u, rfl⟩ f⟩
    have J : Inv X pins σ (upd H1 d (.xd [(("at" : Str), v), (("name" : Str), V.str n)])) ⟨G', g, dr, tk', os⟩ := I1.laid (t' := tk') old M.dbig ob
    refine ⟨e, oe, fv, ⟨G', g, dr, tk', os⟩, _, .ref C, some d, rfl, J, fun b o q => ?_, ge, hoe, ⟨hc, hd⟩, hdat, h1, ?_, rfl, I1.bare, raises_own T.exC T.tyC, q1 d (I1.hok.fresh M.dbig)⟩
    · by_cases hb : b = e
      · have q' : G'.get? b = some o := q
        rw [hb, ge] at q'; cases q'
      · exact (gk b hb).symm.trans q
    · rw [upd_ne (Ne.symm M.dne)]
      exact I1.hok.fresh M.new
end
section
variable {clsV : Nat → Value} {X : Cx} {W : WX} {C : Addr} {x n : Str}
/-- raise X(e) -/
theorem s_raise {a : Expr} {m : Sem D} {p pos pos2 : Pos} {k cls : Nat} {nl : List Nat} (hc : X.calm = true) (tk : Takes X W) (T : HeCls X.prog X.w X.K X.mg x C n) (hV : clsV cls = .ref C) (hn : mkS nl = n) (hr : Room k X.A) (hk : 2 ≤ k) (ha : ED clsV W X a m) (hg : Gl X x) (hd : (x == ("__debug__" : Str)) = false := by decide)
    (he : starEach (a :: []) X.env = (false, eval a X.env) :: starEach [] X.env := by rfl) (hpl : (backTo pos (starEach [] X.env)).any (·.1) = false := by rfl) :
    SF clsV W X (.Raise (some (.Call (.Name x p) [a] [] pos)) none pos2) (sRaise cls nl m) :=
  PS.imp (ps_raise hc tk (pmk_he T hr hk ha hg hd he hpl)) fun En σ H ⟨ρ, F, own, er, h⟩ => tG.mono (h.bind (Rel1 := relD X.K) er) fun v H1 ⟨d, ρ1, F1, own1, e1, s1, r1, h1⟩ => by
    refine ⟨v, rfl, fun dd hdd => ?_⟩
    have r1 : RepD X.K F1 H1 v d := r1
    have st : Stp F1 H1 own1 F1 (upd H1 dd (.xd [(("at" : Str), v), (("name" : Str), V.str n)])) own1 := Stp.new e1.fdom hdd
    refine h1 (.ref C) (some dd) σ F1 _ own1 (e1.new hdd) st ⟨hV.symm, dd, _, v, rfl, upd_same, ?_, r1.step st, ?_⟩
    · simp [List.lookup]
    · rw [hn]
      simp only [List.lookup]
      rw [show (("name" : Str) == ("at" : Str)) = false from by decide]
      simp
end
section
variable {X : Cx} {a D : Addr} {oe : Obj} {cls : Value} {d : Option Addr} {pn : List (Addr × Obj)}
def rIsS (K : PySem.W.Frag) (D a : Addr) (cls : Value) (d : Option Addr) : List V → Hp → VK → Prop := fun xs H Q => ∃ (S dd : Addr) (b : Bool) (fs : List (Str × V)), xs = [.ref a, .ref S] ∧ cls = .ref D ∧ d = some dd ∧ H dd = some (.xd fs) ∧ PySem.W.kitOne K (.ref D) (.ref S) = some b ∧ Q (.bl b) H
theorem call_isS (C : L2.ExcC X.K D) (hz : Zc cls d oe) (hf : ∃ vs, oe.data = .fields vs) : CallR (X.suite a ((a, oe) :: pn)) (.builtin "isinstance") (rIsS X.K D a cls d) := by
  intro pins s σ H xs us Q I r h
  obtain ⟨S, dd, b, fs, rfl, rfl, rfl, hdd, e, q⟩ := h
  cases r with
  | cons rx rr =>
    cases rr with
    | cons rt rr =>
      cases rr
      cases rx
      cases rt
      obtain ⟨hget, _⟩ := I.pin (a, oe) (List.mem_append.mpr (.inl List.mem_cons_self))
      obtain ⟨vs, hv⟩ := hf
      have hx : ObjOk X.prog X.w H s.heap dd (.xd fs) := I.hok dd _ hdd
      obtain ⟨mA, hns, hr⟩ := hx
      obtain ⟨od, ho, hl⟩ := lookIn_ns hns
      have J : PySem.W.InstAt s.heap a oe D (some od) := ⟨hget, hz.1, by unfold PySem.W.notCls; rw [hv] <;> rfl, by rw [hz.2]; exact ho⟩
      obtain ⟨cd, hc, _⟩ := PySem.W.any_some C.hd
      exact PySem.W.kia_one (PySem.W.kitx_exc (by rw [hc]; rfl) C.hg C.hk C.hs C.ha C.hn C.ht C.hm) I.kIn J e (fun z => nomatch z) fun tk => ⟨.bl b, H, I.kept (t' := tk) fun _ _ z => z, rfl, q⟩
/-- return e.at if isinstance(e, S) and e.name == nm else .. : e.at -/
def tSuAt (D : Addr) (i : Nat) (nm : Str) (a : Addr) (cls : Value) (d : Option Addr) : TS := fun En σ H => ∃ (dd : Addr) (fs : List (Str × V)) (v : V), cls = .ref D ∧ d = some dd ∧ H dd = some (.xd fs) ∧ fs.lookup ("at" : Str) = some v ∧ fs.lookup ("name" : Str) = some (.str nm) ∧ σ[i]? = some (some (.ref a)) ∧ En.rt v H
theorem su_at {i : Nat} {e sn nm oth : Str} {S : Addr} {p1 p2 p3 p4 p5 q1 q2 q3 q4 r1 r2 r3 r4 r5 : Pos} {j j2 : Nat} (C : L2.ExcC X.K D) (T : XfC X.K D) (noA : PySem.W.findIn X.K (.ref D) "at" = some none) (noN : PySem.W.findIn X.K (.ref D) "name" = some none)
    (kit : PySem.W.kitOne X.K (.ref D) (.ref S) = some true) (hz : Zc cls d oe) (hf : ∃ vs, oe.data = .fields vs) (hN : X.N[i]? = some e) (hv : Vis X.env.scope e) (hg : Gl X sn) (hm : X.mg sn = some (.ref S)) (hgi : Gl X "isinstance") (hmi : X.mg "isinstance" = none)
    (hd : (e == ("__debug__" : Str)) = false := by decide) (hcd : (e == ("__classdict__" : Str)) = false := by decide) (hd2 : (sn == ("__debug__" : Str)) = false := by decide)
    (h1 : starEach [.Name e p2, .Name sn p3] X.env = (false, eval (.Name e p2) X.env) :: starEach [.Name sn p3] X.env := by rfl) (h2 : attributeBase (.Name e q1) "name" X.env (eval (.Name e q1) X.env) = eval (.Name e q1) X.env := by rfl) (h3 : attributeBase (.Name e r1) "at" X.env (eval (.Name e r1) X.env) = eval (.Name e r1) X.env := by rfl) :
    PSs (X.suite a ((a, oe) :: pn)) [.Return (some (.IfExp (.BoolOp .And [.Call (.Name "isinstance" p1) [.Name e p2, .Name sn p3] [] p4, .Compare (.Attribute (.Name e q1) "name" q2) [.Eq] [.Constant (.str nm) j q3] q4] p5) (.Attribute (.Name e r1) "at" r2) (.Constant (.str oth) j2 r3) r4)) r5]
      (tSuAt D i nm a cls d) :=
  PSs.imp (pss_one (ps_ret (pe_ifExp (PW.pt (pw_and (pt_val (pe_callB (call_isS C hz hf) hgi hmi PyProof.Rows.boot_isinstance (pa_cons (pe_var (i := i) hN hv hd hcd) (pa_cons (pe_glob (v := .ref S) hg hm rfl hd2) pa_nil)) (by decide) (by decide) h1 rfl))
      (pw_and1 (pt_cmpR op_eq (pe_xf T noN hz hf (pe_var (i := i) hN hv hd hcd) h2) pe_str (nomark _))))) (pe_xf T noA hz hf (pe_var (i := i) hN hv hd hcd) h3) pe_str)))
    fun En σ H ⟨dd, fs, v, e1, e2, hdd, lA, lN, hs, k⟩ => by
      refine ⟨_, hs, ⟨S, dd, true, fs, rfl, e1, e2, hdd, kit, true, rfl, ?_⟩⟩
      dsimp only
      rw [if_pos rfl]
      refine ⟨_, hs, rfl, e1, dd, fs, _, e2, hdd, lN, rfl, true, by rw [decide_eq_true rfl], ?_⟩
      dsimp only
      rw [if_pos rfl]
      exact ⟨_, hs, rfl, e1, dd, fs, v, e2, hdd, lA, k⟩
end
section
variable {clsV : Nat → Value} {X : Cx} {W : WX} {C S : Addr} {i c0 : Nat} {m : Sem Flow} {body : List Stmt} {nl : List Nat}
/-- try: body; except X as e: return e.at if isinstance(e, S) and e.name == nm else .. -/
theorem s_tryAt {x e sn nm oth : Str} {np pos pos' p1 p2 p3 p4 p5 q1 q2 q3 q4 r1 r2 r3 r4 r5 : Pos} {j j2 : Nat} (hs : X.stack = X.env :: X.outer) (hf : X.env.frame = some X.env.locals) (hNd : X.N.Nodup) (hi : X.N[i]? = some e) (hln : X.env.kindOf e = some .local) (hc : Names X x (.ref C)) (tk : Takes X W)
    (hV : clsV c0 = .ref C) (exm : PySem.W.exmOne X.K (.ref C) (.ref C) = some true) (hn : mkS nl = nm) (EC : L2.ExcC X.K C) (T : XfC X.K C) (noA : PySem.W.findIn X.K (.ref C) "at" = some none) (noN : PySem.W.findIn X.K (.ref C) "name" = some none) (kit : PySem.W.kitOne X.K (.ref C) (.ref S) = some true)
    (hv : Vis X.env.scope e) (hg : Gl X sn) (hm : X.mg sn = some (.ref S)) (hgi : Gl X "isinstance") (hmi : X.mg "isinstance" = none)
    (hb : ∀ (W : WX) (pn : List (Addr × Obj)) (xe : Value → Shared → Prop), Takes (X.tr pn xe) W → PassesOwn (model X.prog X.w) X.A X.env xe → SFs clsV W (X.tr pn xe) body m)
    (hd : (e == ("__debug__" : Str)) = false := by decide) (hcd : (e == ("__classdict__" : Str)) = false := by decide) (hd2 : (sn == ("__debug__" : Str)) = false := by decide)
    (h1 : starEach [.Name e p2, .Name sn p3] X.env = (false, eval (.Name e p2) X.env) :: starEach [.Name sn p3] X.env := by rfl) (h2 : attributeBase (.Name e q1) "name" X.env (eval (.Name e q1) X.env) = eval (.Name e q1) X.env := by rfl) (h3 : attributeBase (.Name e r1) "at" X.env (eval (.Name e r1) X.env) = eval (.Name e r1) X.env := by rfl) :
    SF clsV W X (.Try body [.ExceptHandler (some (.Name x np)) (some e) [.Return (some (.IfExp (.BoolOp .And [.Call (.Name "isinstance" p1) [.Name e p2, .Name sn p3] [] p4, .Compare (.Attribute (.Name e q1) "name" q2) [.Eq] [.Constant (.str nm) j q3] q4] p5) (.Attribute (.Name e r1) "at" r2) (.Constant (.str oth) j2 r3) r4)) r5] pos'] [] [] pos)
      (sTryAs i c0 m (sAtIf nl)) :=
  PS.imp (ps_try_as (i := i) (tb := fun W' => tF clsV X.K W' m) (ts := fun a cls d => tSuAt C i nm a cls d) (Wout := W) hs hf hNd hi hln hc tk hb
    (fun a oe cls d pn hz hfl => su_at (i := i) EC T noA noN kit hz hfl hi hv hg hm hgi hmi hd hcd hd2 h1 h2 h3)) fun En σ H ⟨ρ, F, own, er, h⟩ => by
    refine ⟨ρ, F, own, er, ?_⟩
    unfold wpF sTryAs at h
    unfold wpF
    cases em : m ρ with
    | bad => simp only [em] at h
    | ok f ρ1 => simp only [em] at h; exact h
    | exc x ρ1 =>
      simp only [em] at h
      intro c d σ' F' H' own' e' s' hx
      obtain ⟨rfl, dd, fs, v, rfl, hdd, lA, rv, lN⟩ := hx
      by_cases hh : x.cls = c0 ∧ i < ρ1.length
      · rw [if_pos hh] at h
        rw [hh.1, hV]
        refine ⟨true, exm, fun _ a ha => ?_, fun z => Bool.noConfusion z⟩
        unfold sAtIf at h
        by_cases hnm : x.name = nl
        · rw [if_pos hnm] at h
          have hl : i < σ'.length := by rw [← e'.len]; exact hh.2
          refine ⟨dd, fs, v, rfl, rfl, hdd, lA, by rw [lN, hnm, hn], List.getElem?_set_self hl, ?_⟩
          have e2 := e'.set (fun _ z => z) e'.fdom (i := i) (c := .no) (fun j b t _ hb => e'.nf j b t hb) rfl
          exact h σ' F' H' _ e2 s'.drop v rv
        · rw [if_neg hnm] at h; exact h.elim
      · rw [if_neg hh] at h; exact h.elim
end
end DL
/-! SetG: sets of ints and texts with all that their walk needs: made of a list or a text, sorted. (Turned from HandS.Set, which has ints alone, and PyProof.Rows.SetFrom.) -/
namespace DL
open PySem PySem.Spec PyProof.Rows L2
/-- the key that a value is -/
def kOf : Value → Key
  | .int k _ => .inl k
  | .str x _ => .inr x
  | _ => .inl 0
theorem kOf_is {k : Key} {v : Value} (h : keyIs k v = true) : kOf v = k := by
  rcases keyIs_shape h with ⟨i, t, rfl, rfl⟩ | ⟨x, t, rfl, rfl⟩ <;> rfl
def GoodK (w : World) (e : Int × Value) : Prop := ∃ k, keyIs k e.2 = true ∧ e.1 = keyH w k
/-- the set at a: its members in some order are ks, once each; its table rises and can be walked -/
def SetG (w : World) (h : Heap) (a : Addr) (ks : List Key) : Prop :=
  ∃ o el ep tb, h.get? a = some o ∧ o.ExactSet ∧ o.data = .set el ep tb ∧ (∀ e ∈ el.toList, GoodK w e) ∧ (el.toList.map fun e => kOf e.2).Perm ks ∧ ks.Nodup ∧
    el.size < scanBound ∧ tb.fits el.size = true ∧ Ris tb.place.toList ∧ (w.params.followText "set-order" = true ∨ tb.led = true)
section
variable {P : Program} {w : World} {h h' : Heap} {a : Addr} {ks : List Key}
theorem SetG.keep (g : SetG w h a ks) (k : ∀ o, h.get? a = some o → h'.get? a = some o) : SetG w h' a ks := by
  obtain ⟨o, el, ep, tb, ho, rest⟩ := g
  exact ⟨o, el, ep, tb, k o ho, rest⟩
theorem goodK_elems {l : List (Int × Value)} (g : ∀ e ∈ l, GoodK w e) : ElemsOf (mixKind P w) l := fun e he => by
  obtain ⟨k, h1, h2⟩ := g e he
  refine ⟨⟨k, h1, h2⟩, ?_⟩
  rcases keyIs_shape h1 with ⟨i, t, rfl, q⟩ | ⟨x, t, rfl, q⟩
  · rw [q] <;> rfl
  · rw [q] <;> rfl
theorem goodK_is {e : Int × Value} (g : GoodK w e) (k : Key) : (mixKind P w).is k e.2 = true ↔ kOf e.2 = k := by
  obtain ⟨k0, h1, _⟩ := g
  rw [kOf_is h1]
  exact ⟨fun z => (mixKind P w).inj e.2 k0 k h1 z, fun z => by rw [← z]; exact h1⟩
theorem goodK_mem {l : List (Int × Value)} (g : ∀ e ∈ l, GoodK w e) (k : Key) : k ∈ l.map (fun e => kOf e.2) ↔ ∃ e ∈ l, (mixKind P w).is k e.2 = true := by
  rw [List.mem_map]
  exact ⟨fun ⟨e, he, q⟩ => ⟨e, he, (goodK_is (g e he) k).2 q⟩, fun ⟨e, he, q⟩ => ⟨e, he, (goodK_is (g e he) k).1 q⟩⟩
end
def addK (ks : List Key) (k : Key) : List Key := if ks.any (fun j => decide (j = k)) = true then ks else ks ++ [k]
theorem any_key {ks : List Key} {k : Key} : ks.any (fun j => decide (j = k)) = true ↔ k ∈ ks := by
  rw [List.any_eq_true]
  exact ⟨fun ⟨j, h, e⟩ => by rw [← of_decide_eq_true e]; exact h, fun h => ⟨k, h, by simp⟩⟩
theorem addK_in {ks : List Key} {k : Key} (h : k ∈ ks) : addK ks k = ks := if_pos (any_key.mpr h)
theorem addK_out {ks : List Key} {k : Key} (h : k ∉ ks) : addK ks k = ks ++ [k] := if_neg fun z => h (any_key.mp z)
section
variable {P : Program} {w : World} {A : Around} {E : Value → Shared → Prop} {s : Shared} {a : Addr} {ks : List Key}
theorem setG_tail {g : Bool → PySem.Sem Unit} (hg : ∀ (b : Bool) (s₁ : Shared) (Q' : Unit → Shared → Prop), Q' () s₁ → wpAny (model P w) A (g b) Q' E s₁)
    {o : Obj} {el : Array (Int × Value)} {ep : Nat} {tb : SetTable} (ho : s.heap.get? a = some o) (hex : o.ExactSet) (hd : o.data = .set el ep tb)
    {e1 : Array (Int × Value)} {t2 : SetTable} {k1 : List Key} (g1 : ∀ e ∈ e1.toList, GoodK w e) (p1 : (e1.toList.map fun e => kOf e.2).Perm k1) (n1 : k1.Nodup)
    (hb1 : e1.size < scanBound) (hf2 : t2.fits e1.size = true) (hr : Ris t2.place.toList) (hl : w.params.followText "set-order" = true ∨ t2.led = true) {wasDummy : Bool} {R : Option Bool → Shared → Prop}
    (hR : ∀ h', Heap.SameBut a s.heap h' → SetG w h' a k1 → R (some true) { s with heap := h' }) :
    wpAny (model P w) A (do
        storeSet a e1 t2
        if (!wasDummy && t2.tooFull) = true then do
            g (relayAll t2 e1 (SetTable.grown e1.size)).2.2
            storeSet a (relayAll t2 e1 (SetTable.grown e1.size)).1 (relayAll t2 e1 (SetTable.grown e1.size)).2.1
            pure (some true)
          else pure (some true)) R E s := by
  refine wpAny_bind (wpAny_storeSet_of ho hd ?_ (fits_of_scanBound hb1))
  have at1 := store_at (es' := e1) (t' := t2) ho hd
  have but1 := Heap.SameBut.update s.heap a (Obj.putSet e1 t2)
  split
  · have pm := relayAll_perm t2 e1 (SetTable.grown e1.size)
    have f3 := relayAll_fits t2 e1 (SetTable.grown e1.size)
    have r3 := relayAll_ris t2 e1 (SetTable.grown e1.size)
    have l3 := relayAll_led t2 e1 (SetTable.grown e1.size)
    generalize relayAll t2 e1 (SetTable.grown e1.size) = Z at pm f3 r3 l3 ⊢
    obtain ⟨e2, t3, gave⟩ := Z
    dsimp only at pm f3 r3 l3 ⊢
    have sz : e2.size = e1.size := by rw [← Array.length_toList, pm.length_eq, Array.length_toList]
    have hb2 : e2.size < scanBound := by rw [sz]; exact hb1
    refine wpAny_bind (hg _ _ _ ?_)
    refine wpAny_bind (wpAny_storeSet_of at1 rfl ?_ (fits_of_scanBound hb2))
    have at2 := store_at (es' := e2) (t' := t3) at1 rfl
    refine wpAny_pure (hR _ (but1.trans (Heap.SameBut.update _ a _)) ?_)
    exact ⟨_, e2, _, t3, at2, hex, rfl, fun e he => g1 e (pm.mem_iff.mp he), (pm.map fun e => kOf e.2).trans p1, n1, hb2, f3, r3, hl.imp id fun z => by rw [l3]; exact z⟩
  · exact wpAny_pure (hR _ but1 ⟨_, e1, _, t2, at1, hex, rfl, g1, p1, n1, hb1, hf2, hr, hl⟩)
theorem setG_add {k : Key} {v : Value} {Q : Bool → Shared → Prop} (hv : keyIs k v = true) (R : SetG w s.heap a ks) (room : ks.length + 1 < scanBound)
    (hQ : ∀ h' b, Heap.SameBut a s.heap h' → SetG w h' a (addK ks k) → Q b { s with heap := h' }) :
    wpAny (model P w) A (setAddHashed a v ((mixKind P w).hash k)) Q E s := by
  obtain ⟨o, el, ep, tb, ho, hex, hd, g, pm0, nd, hb, hf, hr, hl⟩ := R
  have hkey : (mixKind P w).is k v = true := hv
  have hsc : v.scannable = true := by
    rcases keyIs_shape hv with ⟨i, t, rfl, rfl⟩ | ⟨x, t, rfl, rfl⟩ <;> rfl
  have hel : ElemsOf (mixKind P w) el.toList := goodK_elems g
  unfold setAddHashed setAddHashedIn
  refine wpAny_holding (wpAny_bind (wpAny_setState_of ho hd hf ?_))
  dsimp only
  rw [byScan_of hsc hb hel]
  simp only [↓reduceIte]
  unfold setAddByScan
  refine wpAny_bind ?_
  refine wpAny_bind (wpAny_rule ?_)
  refine wpAny_bind (wpAny_setScan_of hkey ho hd hf hel ?_)
  cases hfi : List.findIdx? (fun e => (mixKind P w).is k e.2) el.toList with
  | some j =>
    dsimp only
    obtain ⟨hj, pj, _⟩ := List.findIdx?_eq_some_iff_getElem.mp hfi
    have hin : k ∈ ks := pm0.mem_iff.mp ((goodK_mem (P := P) g k).2 ⟨el.toList[j], List.getElem_mem hj, pj⟩)
    refine wpAny_pure (wpAny_pure (hQ s.heap _ (Heap.SameBut.refl a s.heap) ?_))
    rw [addK_in hin]
    exact ⟨o, el, ep, tb, ho, hex, hd, g, pm0, nd, hb, hf, hr, hl⟩
  | none =>
    dsimp only
    have hnk : k ∉ ks := fun z => by
      obtain ⟨e, he, q⟩ := (goodK_mem (P := P) g k).1 (pm0.mem_iff.mpr z)
      have c := List.findIdx?_eq_none_iff.mp hfi e he
      rw [q] at c
      cases c
    have hgw : ∀ (b : Bool) {s₁ : Shared} {Q' : Unit → Shared → Prop}, Q' () s₁ → wpAny (model P w) A (match b with | true => rule "set.scan.the-table-gave-way" | false => pure ()) Q' E s₁ :=
      fun b s₁ Q' q => by
        cases b
        · exact wpAny_pure q
        · exact wpAny_rule q
    have pm := layNew_perm tb el ((mixKind P w).hash k) v
    have f1 := layNew_fits tb el ((mixKind P w).hash k) v
    have r1 := layNew_ris tb el ((mixKind P w).hash k) v hr
    have l1 := layNew_led tb el ((mixKind P w).hash k) v
    generalize layNew tb el ((mixKind P w).hash k) v = Z at pm f1 r1 l1 ⊢
    obtain ⟨e1, t1, wasDummy, gave⟩ := Z
    dsimp only at pm f1 r1 l1 ⊢
    rw [Array.toList_push] at pm
    have pk : (e1.toList.map fun e => kOf e.2).Perm (ks ++ [k]) := by
      refine (pm.map fun e => kOf e.2).trans ?_
      rw [List.map_append]
      show (_ ++ [kOf v]).Perm _
      rw [kOf_is hv]
      exact pm0.append_right [k]
    have g1 : ∀ e ∈ e1.toList, GoodK w e := fun e he => by
      rcases List.mem_append.mp (pm.mem_iff.mp he) with z | z
      · exact g e z
      · rw [List.mem_singleton] at z
        rw [z]; exact ⟨k, hv, rfl⟩
    have n1 : (ks ++ [k]).Nodup := List.nodup_append.mpr ⟨nd, by simp, fun x hx y hy e => by
      rw [List.mem_singleton] at hy
      exact hnk (by rw [← hy, ← e]; exact hx)⟩
    have hb1 : e1.size < scanBound := by
      have q := pk.length_eq
      rw [List.length_map, Array.length_toList, List.length_append, List.length_singleton] at q
      rw [q]; exact room
    have hled : w.params.followText "set-order" = true ∨ t1.led = true := hl.imp id fun z => by rw [l1]; exact z
    have fin : ∀ h', Heap.SameBut a s.heap h' → SetG w h' a (ks ++ [k]) → Q true { s with heap := h' } := fun h' sb r => hQ h' true sb (by rw [addK_out hnk]; exact r)
    refine wpAny_bind (hgw _ ?_)
    split
    · refine wpAny_bind ?_
      rw [hashByValue_scannable 8 hsc]
      refine wpAny_pure ?_
      refine setG_tail ?_ ho hex hd g1 pk n1 hb1 ?_ ?_ ?_ ?_
      · intro b s₁ Q' q
        cases b
        · exact wpAny_pure q
        · exact wpAny_rule q
      · first | (split <;> first | exact f1 | exact SetTable.fits_plain_off f1) | exact f1
      · first | (split <;> exact r1) | exact r1
      · first | (split <;> exact hled) | exact hled
      · intro h' sb r; dsimp only; exact wpAny_pure (fin h' sb r)
    · refine wpAny_bind (wpAny_pure ?_)
      simp only [↓reduceIte]
      refine setG_tail ?_ ho hex hd g1 pk n1 hb1 f1 r1 hled ?_
      · intro b s₁ Q' q
        cases b
        · exact wpAny_pure q
        · exact wpAny_rule q
      · intro h' sb r; dsimp only; exact wpAny_pure (fin h' sb r)
end
/-- the keys met, in order -/
def met (val : Nat → Key) (i : Nat) : List Key := ((List.range i).map val).foldl addK []
theorem met_succ (val : Nat → Key) (i : Nat) : met val (i + 1) = addK (met val i) (val i) := by
  unfold met; rw [List.range_succ, List.map_append, List.foldl_append]; rfl
theorem met_len (val : Nat → Key) : ∀ i, (met val i).length ≤ i
  | 0 => Nat.le_refl _
  | i + 1 => by
    have ih := met_len val i
    rw [met_succ, addK]
    split
    · omega
    · rw [List.length_append, List.length_singleton]; omega
section
variable {prog : Program} {w : World} {A : Around} {R : Result → Shared → Prop} {I : Addr} {fp wr : List Addr} {G : Array GenState → Array GenState → Prop} {n : Nat} {P : Nat → Value → Prop} {St : Nat → Shared → Prop}
theorem setG_loop (W : WalksS prog w A.in1 I fp wr G n P St) (S : Addr) (hSf : S ∉ fp) (val : Nat → Key) (hval : ∀ i v, P i v → keyIs (val i) v = true) (hb : n + 1 < scanBound) :
    ∀ (k i : Nat) (s : Shared), n - i = k → i ≤ n → St i s → SetG w s.heap S (met val i) →
      (∀ s', Moved (S :: wr) G s s' → SetG w s'.heap S (met val n) → R (.ok (.ret .none)) s') →
      codeAny (model prog w) A (.builtin "set.update.loop" ⟨[.ref S, .ref I], []⟩) R s := by
  have hSw : S ∉ wr := fun h => hSf (W.sub _ h)
  have hsub : ∀ b ∈ wr, b ∈ S :: wr := fun b hb => List.mem_cons_of_mem _ hb
  intro k
  induction k with
  | zero =>
    intro i s hk hi hst hS hR
    obtain rfl : i = n := by omega
    refine codeAny_builtin PyProof.Rows.F.entry_set_update_loop ?_
    rw [Around.under_plainId PyProof.Rows.F.plain_set_update_loop _]
    show wpAny _ A.in1 (pyNext (.ref I) >>= _) _ _ s
    refine wpAny_bind (W.done s _ _ hst fun s' hm => ?_)
    show wpAny _ A.in1 (ret Value.none) _ _ s'
    exact wpAny_pure (hR s' (hm.mono hsub) (hS.keep fun o ho => hm.heap S _ hSw ho))
  | succ k ih =>
    intro i s hk hi hst hS hR
    have hlt : i < n := by omega
    refine codeAny_builtin PyProof.Rows.F.entry_set_update_loop ?_
    rw [Around.under_plainId PyProof.Rows.F.plain_set_update_loop _]
    show wpAny _ A.in1 (pyNext (.ref I) >>= _) _ _ s
    refine wpAny_bind (W.item i s _ _ hlt hst fun v s' hP hst' hm => ?_)
    have hv := hval i v hP
    have hS' : SetG w s'.heap S (met val i) := hS.keep fun o ho => hm.heap S _ hSw ho
    show wpAny _ A.in1 (holding [v] (setAdd S v) >>= _) _ _ s'
    refine wpAny_bind (wpAny_holding ?_)
    unfold setAdd
    refine wpAny_holding ?_
    refine wpAny_bind ((mixKind prog w).pyHash (k := val i) hv ?_)
    have hroom : (met val i).length + 1 < scanBound := by have := met_len val i; omega
    refine setG_add (s := { s' with toks := s'.toks + 1 }) hv hS' hroom fun h' b hsb hS2 => ?_
    rw [← met_succ] at hS2
    refine wpAny_pure ⟨plainId_quiet PyProof.Rows.F.plain_set_update_loop _, ih (i + 1) _ (by omega) hlt (W.frame _ s' _ _ hst' (Nat.le_succ _) fun b hb o e => ?_) hS2 fun s2 hm2 hS3 => ?_⟩
    · rw [hsb.2 b (fun h : b = S => hSf (by rw [← h]; exact hb))]; exact e
    · refine hR s2 (Moved.trans W.gtrans ((hm.mono hsub).then_heap (Nat.le_succ _) fun b o hb e => ?_) hm2) hS3
      rw [hsb.2 b (fun h : b = S => hb (by rw [h]; exact List.mem_cons_self))]; exact e
end
/-- a new set, nothing in it -/
def newSet (w : World) : Obj := { cls := .type "set", dict := none, data := .set #[] 0 (.fresh 0 0 (!w.params.followText "set-order")) }
section
variable {P : Program} {w : World} {A : Around} {E : Value → Shared → Prop} {s : Shared}
theorem setG_code (a : Value) {Q₁ : Value → Shared → Prop} (h : Q₁ (.ref s.heap.objs.size) { s with heap := s.heap.push (newSet w) }) :
    codeAny (model P w) A (.call (.builtin "set.__new__") ⟨[.type "set", a], []⟩) (wants Q₁ E) s := by
  refine codeAny_of_tree ?_
  show wpAny _ A.in1 (do checkBuiltinCall "set.__new__" ⟨[.type "set", a], []⟩; again (.builtin "set.__new__" ⟨[.type "set", a], []⟩)) _ _ s
  refine wpAny_bind (wpAny_of_eq (PySem.F.newCall_set_1 a) (wpAny_pure ⟨plainId_quiet PySem.F.plain_set_new _, codeAny_builtin PySem.F.entry_set_new ?_⟩))
  rw [Around.under_plainId PySem.F.plain_set_new _]
  unfold Builtin.«set.__new__» Builtin.Frozenset.newClass
  have hsub := sub_set_self
  obtain ⟨hp, gg, dd, tk, os⟩ := s
  dsimp only
  wp_walk
  refine wpAny_askSetting (wpAny_pure ?_)
  dsimp only
  simp only [newObj]
  refine wpAny_bind (wpAny_alloc (wpAny_pure ?_))
  exact wpAny_pure h
theorem setG_fresh {h : Heap} (w : World) {h' : Heap} (k : ∀ b o, (h.push (newSet w)).get? b = some o → h'.get? b = some o) : SetG w h' h.objs.size [] :=
  ⟨newSet w, #[], 0, _, k _ _ (Heap.get?_push_size _ rfl), ⟨rfl, rfl, rfl⟩, rfl, (fun e he => by simp at he), (by simp), List.nodup_nil, (by decide), (by rfl), List.Pairwise.nil, by
    show _ ∨ (!w.params.followText "set-order") = true
    cases w.params.followText "set-order"
    · exact .inr rfl
    · exact .inl rfl⟩
set_option maxHeartbeats 8000000 in
/-- set(xs), xs a list -/
theorem call_setG_list {l : Addr} {items : Array Value} {val : Nat → Key} {Q : Value → Shared → Prop}
    (hh : A.handled = none) (hl : s.heap.IsList l items) (hv : ∀ i v, items[i]? = some v → keyIs (val i) v = true) (hb : items.size + 1 < scanBound)
    (hQ : ∀ (h' : Heap) (tk : Nat), SetG w h' s.heap.objs.size (met val items.size) → (∀ b o, s.heap.get? b = some o → h'.get? b = some o) → Q (.ref s.heap.objs.size) { s with heap := h', toks := tk }) :
    wpAny (model P w) A (call (.type "set") [.ref l]) Q E s := by
  obtain ⟨c, tl, hmro⟩ := PySem.F.called_set.mro
  have hmade := PySem.F.called_set.made
  have hsub := PySem.F.called_set.sub
  refine wpAny_call (codeAny_of_tree ?_)
  show wpAny _ _ (callAny (.type "set") _) _ _ _
  refine wpAny_pure ⟨Code.quiet_builtin _ (by decide +kernel), codeAny_builtin PySem.F.entry_type_call ?_⟩
  rw [Around.under_plain (weight_type_call_type "set" [.ref l] []) rfl]
  have n1 := PySem.F.called_set.notType
  have n2 := PySem.F.called_set.canCreate
  have n3 := PySem.F.typeCall_set_1 (.ref l)
  repeat (any_goals (first | assumption | wp_step))
  refine codeAny_mono (setG_code (.ref l) (E := E) (Q₁ := fun obj s₁ => obj = .ref s.heap.objs.size ∧ s₁ = { s with heap := s.heap.push (newSet w) }) ⟨rfl, rfl⟩) fun r s₁ hr => ?_
  cases r with
  | error e => exact hr
  | ok fl =>
    cases fl with
    | ret obj =>
      obtain ⟨rfl, rfl⟩ := hr
      have hS : (s.heap.push (newSet w)).get? s.heap.objs.size = some (newSet w) := Heap.get?_push_size _ rfl
      have hT : Shared.TypeIs { s with heap := s.heap.push (newSet w) } (.ref s.heap.objs.size) "set" := ⟨_, hS, rfl⟩
      have m1 := PySem.F.called_set.init.lookup
      have m2 := PySem.F.called_set.init.bind (.ref s.heap.objs.size)
      repeat (any_goals (first | assumption | wp_step))
      refine codeAny_mono (codeAny_call_builtin (R := wants (fun r s₂ => r = .none ∧ ∃ h' tk, s₂ = { s with heap := h', toks := tk } ∧ SetG w h' s.heap.objs.size (met val items.size) ∧
          (∀ b o, s.heap.get? b = some o → h'.get? b = some o)) E) PySem.F.called_set.init.plain PySem.F.entry_set_init (check_set_init_1 hT ?_)) fun r₂ s₂ hr₂ => ?_
      · obtain ⟨ol, hol, hcl, nl, hdl⟩ := hl
        obtain ⟨ocls, odict, odata, oslots⟩ := ol
        simp only at hcl hdl
        subst hcl; subst hdl
        have hol' : (s.heap.push (newSet w)).get? l = some { cls := .type "list", dict := odict, data := .seq items nl, slots := oslots } := Heap.get?_push_of_some _ hol
        have b1 := PySem.F.sub_list_set
        have b2 := PySem.F.sub_list_frozenset
        have hne : (Value.type "list" == Value.type "dict") = false := by decide
        have hl1 : (s.heap.push (newSet w)).IsList l items := ⟨_, hol', rfl, nl, rfl⟩
        unfold Builtin.«set.__init__» noKeywords Builtin.Frozenset.updateFrom
        generalize hPI : pyIter = PI
        wp_walk
        subst hPI
        refine wpAny_pyIter_list hl1 ?_
        refine wpAny_bind (wpAny_runValue ?_)
        have lt : l < s.heap.objs.size := Heap.lt_size hol
        have hh3 : A.in1.in1.in1.handled = none := by simp [hh]
        have hneI : l ≠ (s.heap.push (newSet w)).objs.size := by
          rw [Heap.size_push]; exact Nat.ne_of_lt (Nat.lt_succ_of_lt lt)
        have hSf : s.heap.objs.size ∉ [(s.heap.push (newSet w)).objs.size, l] := by
          rw [Heap.size_push]; simp only [List.mem_cons, List.mem_singleton, List.not_mem_nil, or_false, not_or]
          exact ⟨Nat.ne_of_lt (Nat.lt_succ_self _), Nat.ne_of_gt lt⟩
        refine setG_loop ((Walks.list hh3 _ l hneI items).toS) s.heap.objs.size hSf val hv hb (items.size - 0) 0 _ (by omega) (Nat.zero_le _)
          ⟨⟨_, Heap.get?_push_size _ rfl, rfl, rfl⟩, (hl1.push _)⟩ ?hS0 ?hR
        case hS0 => exact setG_fresh w fun b o e => Heap.get?_push_of_some _ e
        case hR =>
          intro s' hm hS'
          obtain ⟨h', g', d', tk', os'⟩ := s'
          have eg : g' = s.gens := hm.gens
          have ed : d' = s.drawn := hm.drawn
          have eo : os' = s.os := hm.os
          subst eg; subst ed; subst eo
          show wpAny _ _ _ _ _ _
          refine wpAny_pure ?_
          show wpAny _ _ (ret Value.none) _ _ _
          refine wpAny_pure ⟨rfl, h', tk', rfl, hS', fun b o e => ?_⟩
          have hbl := Heap.lt_size e
          refine hm.heap b o ?_ (Heap.get?_push_of_some _ (Heap.get?_push_of_some _ e))
          rw [Heap.size_push]
          simp only [List.mem_cons, List.mem_singleton, List.not_mem_nil, or_false, not_or]
          exact ⟨Nat.ne_of_lt hbl, Nat.ne_of_lt (Nat.lt_succ_of_lt hbl)⟩
      · cases r₂ with
        | error e => exact hr₂
        | ok fl₂ =>
          cases fl₂ with
          | ret r =>
            obtain ⟨rfl, h', tk, rfl, hS', hk'⟩ := hr₂
            repeat (any_goals (first | assumption | wp_step))
            exact hQ _ _ hS' hk'
          | _ => exact hr₂.elim
    | _ => exact hr.elim
set_option maxHeartbeats 8000000 in
/-- set(x), x a text -/
theorem call_setG_text {x : Str} {tx : Tok} {val : Nat → Key} {Q : Value → Shared → Prop}
    (hh : A.handled = none) (hv : ∀ i v, SignAt x i v → keyIs (val i) v = true) (hb : x.cps.size + 1 < scanBound)
    (hQ : ∀ (h' : Heap) (tk : Nat), SetG w h' s.heap.objs.size (met val x.cps.size) → (∀ b o, s.heap.get? b = some o → h'.get? b = some o) → Q (.ref s.heap.objs.size) { s with heap := h', toks := tk }) :
    wpAny (model P w) A (call (.type "set") [.str x tx]) Q E s := by
  obtain ⟨c, tl, hmro⟩ := PySem.F.called_set.mro
  have hmade := PySem.F.called_set.made
  have hsub := PySem.F.called_set.sub
  refine wpAny_call (codeAny_of_tree ?_)
  show wpAny _ _ (callAny (.type "set") _) _ _ _
  refine wpAny_pure ⟨Code.quiet_builtin _ (by decide +kernel), codeAny_builtin PySem.F.entry_type_call ?_⟩
  rw [Around.under_plain (weight_type_call_type "set" [.str x tx] []) rfl]
  have n1 := PySem.F.called_set.notType
  have n2 := PySem.F.called_set.canCreate
  have n3 := PySem.F.typeCall_set_1 (.str x tx)
  repeat (any_goals (first | assumption | wp_step))
  refine codeAny_mono (setG_code (.str x tx) (E := E) (Q₁ := fun obj s₁ => obj = .ref s.heap.objs.size ∧ s₁ = { s with heap := s.heap.push (newSet w) }) ⟨rfl, rfl⟩) fun r s₁ hr => ?_
  cases r with
  | error e => exact hr
  | ok fl =>
    cases fl with
    | ret obj =>
      obtain ⟨rfl, rfl⟩ := hr
      have hS : (s.heap.push (newSet w)).get? s.heap.objs.size = some (newSet w) := Heap.get?_push_size _ rfl
      have hT : Shared.TypeIs { s with heap := s.heap.push (newSet w) } (.ref s.heap.objs.size) "set" := ⟨_, hS, rfl⟩
      have m1 := PySem.F.called_set.init.lookup
      have m2 := PySem.F.called_set.init.bind (.ref s.heap.objs.size)
      repeat (any_goals (first | assumption | wp_step))
      refine codeAny_mono (codeAny_call_builtin (R := wants (fun r s₂ => r = .none ∧ ∃ h' tk, s₂ = { s with heap := h', toks := tk } ∧ SetG w h' s.heap.objs.size (met val x.cps.size) ∧
          (∀ b o, s.heap.get? b = some o → h'.get? b = some o)) E) PySem.F.called_set.init.plain PySem.F.entry_set_init (check_set_init_1 hT ?_)) fun r₂ s₂ hr₂ => ?_
      · have b1 := PySem.F.sub_str_set
        have b2 := PySem.F.sub_str_frozenset
        have hne : (Value.type "str" == Value.type "dict") = false := by decide
        unfold Builtin.«set.__init__» noKeywords Builtin.Frozenset.updateFrom
        generalize hPI : pyIter = PI
        wp_walk
        subst hPI
        refine wpAny_pyIter_str fun oi St W0 st0 => ?_
        refine wpAny_bind (wpAny_runValue ?_)
        have hh3 : A.in1.in1.in1.handled = none := by simp [hh]
        have hSf : s.heap.objs.size ∉ [(s.heap.push (newSet w)).objs.size] := by
          rw [Heap.size_push, List.mem_singleton]
          exact Nat.ne_of_lt (Nat.lt_succ_self _)
        refine setG_loop ((W0 _ hh3).toS) s.heap.objs.size hSf val hv hb (x.cps.size - 0) 0 _ (by omega) (Nat.zero_le _) st0 ?hS0 ?hR
        case hS0 => exact setG_fresh w fun b o e => Heap.get?_push_of_some _ e
        case hR =>
          intro s' hm hS'
          obtain ⟨h', g', d', tk', os'⟩ := s'
          have eg : g' = s.gens := hm.gens
          have ed : d' = s.drawn := hm.drawn
          have eo : os' = s.os := hm.os
          subst eg; subst ed; subst eo
          show wpAny _ _ _ _ _ _
          refine wpAny_pure ?_
          show wpAny _ _ (ret Value.none) _ _ _
          refine wpAny_pure ⟨rfl, h', tk', rfl, hS', fun b o e => ?_⟩
          have hbl := Heap.lt_size e
          refine hm.heap b o ?_ (Heap.get?_push_of_some _ (Heap.get?_push_of_some _ e))
          rw [Heap.size_push]
          simp only [List.mem_cons, List.mem_singleton, List.not_mem_nil, or_false, not_or]
          exact ⟨Nat.ne_of_lt hbl, Nat.ne_of_lt (Nat.lt_succ_of_lt hbl)⟩
      · cases r₂ with
        | error e => exact hr₂
        | ok fl₂ =>
          cases fl₂ with
          | ret r =>
            obtain ⟨rfl, h', tk, rfl, hS', hk'⟩ := hr₂
            repeat (any_goals (first | assumption | wp_step))
            exact hQ _ _ hS' hk'
          | _ => exact hr₂.elim
    | _ => exact hr.elim
end
end DL
/-! SetG2: sorted(a set), of ints or of texts, any number below the scan's bound; the rules of the hand layer. -/
namespace DL
open PySem PySem.Spec PyProof.Rows L2
section
variable {P : Program} {w : World} {A : Around} {E : Value → Shared → Prop} {s : Shared} {a : Addr} {ks : List Key}
/-- what sorted leaves: old things as they were, a new list -/
def SortedEnd (s : Shared) (Q : Value → Shared → Prop) (out : Array Value) : Prop := ∀ s' p c, (∀ b o, s.heap.get? b = some o → s'.heap.get? b = some o) → s'.gens = s.gens → s'.os = s.os → s.heap.objs.size ≤ p →
  s'.heap.get? p = some (seqObj "list" out c) → Q (.ref p) s'
theorem sorted_setG {κ : PyProof.Rows.KeyKind} (hO : κ.OneLt) {Q : Value → Shared → Prop} (R : SetG w s.heap a ks) (hh : A.handled = none)
    (h0 : ∀ vs : List Value, (vs.map kOf).Perm ks → (∀ v ∈ vs, ∃ k ∈ ks, keyIs k v = true) → KeysOf κ (pairsOf vs) ∧ ∀ v₁ v₂ rest, vs = v₁ :: v₂ :: rest → keyKind' (v₁ :: v₂ :: rest).toArray = pure oneType')
    (hQ : ∀ (vs : List Value) (st : SortSt), (vs.map kOf).Perm ks → (∀ v ∈ vs, ∃ k ∈ ks, keyIs k v = true) → (arrOf st).Perm (pairsOf vs) → SortedToK κ (arrOf st) (pairsOf vs).size → SortedEnd s Q ((arrOf st).map (·.2))) :
    wpAny (model P w) A (call (.builtin "sorted") [.ref a]) Q E s := by
  obtain ⟨o, el, ep, tb, ho, hex, hd, g, pm0, nd, hb, hf, hr, hl⟩ := R
  refine Calls.call_function_entry kind_sorted plain_sorted entry_sorted (args_sorted1 _) ?_
  unfold Builtin.«sorted»
  refine wpAny_bind (m := checkCount "sorted" 1 1 _) (wpAny_pure ?_)
  refine wpAny_bind (collect_set (A := A.in1) hh ⟨o, ho, hex.1, hd⟩ hf hb hr hl fun s1 vs k1 hz g1 o1 pm => ?_)
  have len : vs.length = el.size := by rw [pm.length_eq, List.length_map, Array.length_toList]
  have hL : vs.length ≤ sizeLine := by rw [len]; exact fits_of_scanBound hb
  have pk : (vs.map kOf).Perm ks := by
    have q := pm.map kOf
    rw [List.map_map] at q
    exact q.trans pm0
  have gk : ∀ v ∈ vs, ∃ k ∈ ks, keyIs k v = true := fun v hv => by
    obtain ⟨e, he, q⟩ := List.mem_map.mp (pm.mem_iff.mp hv)
    obtain ⟨k, h1, _⟩ := g e he
    refine ⟨k, pm0.mem_iff.mp (List.mem_map.mpr ⟨e, he, kOf_is h1⟩), by rw [← q]; exact h1⟩
  obtain ⟨z1, z2⟩ := h0 vs pk gk
  refine wpAny_bind (wpAny_newList ?_ hL)
  have at1 : (s1.heap.push (seqObj "list" vs.toArray 0)).get? s1.heap.objs.size = some (seqObj "list" vs.toArray 0) := Heap.get?_push_size _ rfl
  refine wpAny_bind (wpAny_holding (wpAny_call_entry slot_list_sort ⟨_, at1, rfl⟩ entry_list_sort (list_sort_treeKAny hO at1 z1 z2 hL fun st' a1 a2 => ⟨_, rfl, ?_⟩) (args_list_sort _)))
  obtain ⟨c, hc⟩ := sortedHeap_at (vs := vs) (out := (arrOf st').map (·.2)) at1
  refine wpAny_pure ⟨_, rfl, hQ vs st' pk gk a1 a2 _ s1.heap.objs.size c (fun b u e => ?_) g1 o1 hz hc⟩
  have q := k1 b u e
  have hlt := Heap.lt_size q
  show (sortedHeap (s1.heap.push (seqObj "list" vs.toArray 0)) s1.heap.objs.size vs _).get? b = some u
  rw [sortedHeap_old (Nat.ne_of_lt hlt) (by rw [size_push']; exact Nat.lt_succ_of_lt hlt)]
  exact Heap.get?_push_of_some _ q
theorem intsAre_keys : ∀ {vs : List Value}, (∀ v ∈ vs, ∃ i t, v = Value.int i t) → IntsAre vs (vs.map fun v => match kOf v with | .inl i => i | .inr _ => 0)
  | [], _ => .nil
  | v :: vs, h => by
    obtain ⟨i, t, rfl⟩ := h v List.mem_cons_self
    exact .cons i t (intsAre_keys fun u hu => h u (List.mem_cons_of_mem _ hu))
theorem strsAre_keys : ∀ {vs : List Value}, (∀ v ∈ vs, ∃ i t, v = Value.str i t) → StrsAre vs (vs.map fun v => match kOf v with | .inr i => i | .inl _ => Str.empty)
  | [], _ => .nil
  | v :: vs, h => by
    obtain ⟨i, t, rfl⟩ := h v List.mem_cons_self
    exact .cons i t (strsAre_keys fun u hu => h u (List.mem_cons_of_mem _ hu))
theorem sorted_setG_ints {ns : List Int} {Q : Value → Shared → Prop} (R : SetG w s.heap a (ns.map Sum.inl)) (hh : A.handled = none)
    (hQ : ∀ (out : Array Value) (ns' : List Int), IntsAre out.toList ns' → ns'.Perm ns → ns'.Pairwise (· ≤ ·) → SortedEnd s Q out) :
    wpAny (model P w) A (call (.builtin "sorted") [.ref a]) Q E s := by
  have sh : ∀ vs : List Value, (∀ v ∈ vs, ∃ k ∈ ns.map (Sum.inl : Int → Key), keyIs k v = true) → ∀ v ∈ vs, ∃ i t, v = Value.int i t := fun vs h v hv => by
    obtain ⟨k, hk, q⟩ := h v hv
    obtain ⟨i, _, rfl⟩ := List.mem_map.mp hk
    rcases keyIs_shape q with ⟨j, t, _, e⟩ | ⟨x, t, e, _⟩
    · exact ⟨j, t, e⟩
    · cases e
  refine sorted_setG intKind_oneLt R hh (fun vs pk gk => ?_) fun vs st pk gk hp hs => ?_
  · have hI := intsAre_keys (sh vs gk)
    exact ⟨hI.keysOfInt, fun v₁ v₂ rest e => keyKind_ints (by rw [← e]; exact hI)⟩
  · have hI := intsAre_keys (sh vs gk)
    obtain ⟨ns', h1, h2, h3⟩ := sorted_out hI hp (sortedTo_of_int hs)
    refine hQ _ ns' h1 (h2.trans ?_) h3
    have q := pk.map (fun k : Key => match k with | .inl i => i | .inr _ => 0)
    rw [List.map_map, List.map_map] at q
    refine q.trans (List.Perm.of_eq ?_)
    exact List.map_id _
theorem sorted_setG_strs {xs : List Str} {Q : Value → Shared → Prop} (R : SetG w s.heap a (xs.map Sum.inr)) (hh : A.handled = none)
    (hQ : ∀ (out : Array Value) (xs' : List Str), StrsAre out.toList xs' → xs'.Perm xs → sortedS xs' = true → SortedEnd s Q out) :
    wpAny (model P w) A (call (.builtin "sorted") [.ref a]) Q E s := by
  have sh : ∀ vs : List Value, (∀ v ∈ vs, ∃ k ∈ xs.map (Sum.inr : Str → Key), keyIs k v = true) → ∀ v ∈ vs, ∃ i t, v = Value.str i t := fun vs h v hv => by
    obtain ⟨k, hk, q⟩ := h v hv
    obtain ⟨i, _, rfl⟩ := List.mem_map.mp hk
    rcases keyIs_shape q with ⟨j, t, e, _⟩ | ⟨x, t, _, e⟩
    · cases e
    · exact ⟨x, t, e⟩
  refine sorted_setG strKind_oneLt R hh (fun vs pk gk => ?_) fun vs st pk gk hp hs => ?_
  · have hI := strsAre_keys (sh vs gk)
    exact ⟨hI.keysOf, fun v₁ v₂ rest e => keyKind_strs (by rw [← e]; exact hI)⟩
  · have hI := strsAre_keys (sh vs gk)
    obtain ⟨ns', h1, h2, h3⟩ := sorted_out_str hI hp hs
    refine hQ _ ns' h1 (h2.trans ?_) h3
    have q := pk.map (fun k : Key => match k with | .inr i => i | .inl _ => Str.empty)
    rw [List.map_map, List.map_map] at q
    refine q.trans (List.Perm.of_eq ?_)
    exact List.map_id _
end
end DL
/-! DL over the model, 16: sorted, sorted of sets, join, list(range(n)), texts of the module. -/
namespace DL
open PySem PySem.Spec PyProof.Rows L2
def SetGO (w : World) (p : Addr) (ks : List Key) : HO := .ext fun h => SetG w h p ks
theorem setGO_new {w : World} {P : Program} {H : Hp} {h : Heap} {a : Addr} {ks : List Key} (R : SetG w h a ks) : ObjOk P w H h a (SetGO w a ks) := by
  have ⟨o, _, _, _, ho, _⟩ := R
  exact ⟨R, ⟨o, ho⟩, fun h1 h2 p k => SetG.keep p k⟩
section
variable {X : Cx}
theorem setGO_get {pins : List (Addr × Obj)} {σ : L2.St} {H : Hp} {s : Shared} {a : Addr} {ks : List Key} (I : Inv X pins σ H s) (ha : H a = some (SetGO X.w a ks)) : SetG X.w s.heap a ks := (I.hok a _ ha).1
/-- set(x), x a list of ints and texts or a text -/
def rMkSet (X : Cx) : List V → Hp → VK → Prop := fun xs H Q =>
  (∃ (a : Addr) (ks : List Key), xs = [.ref a] ∧ SqL X.K H a (ks.map kV) ∧ ks.length + 1 < scanBound ∧ ∀ p, H p = none → Q (.ref p) (upd H p (SetGO X.w p (ks.foldl addK [])))) ∨
  (∃ x : Str, xs = [.str x] ∧ x.cps.size + 1 < scanBound ∧ ∀ p, H p = none → Q (.ref p) (upd H p (SetGO X.w p ((x.cps.toList.map fun c => (Sum.inr ⟨#[c]⟩ : Key)).foldl addK []))))
theorem met_list (ks : List Key) (d : Key) : met (fun i => ks.getD i d) ks.length = ks.foldl addK [] := by
  unfold met
  congr 1
  apply List.ext_getElem
  · simp
  · intro i h1 h2
    have h3 : i < ks.length := by simpa using h1
    simp [List.getD_eq_getElem?_getD, List.getElem?_eq_getElem h3]
theorem keyIs_rel {k : Key} {v : Value} (r : RelV (kV k) v) : keyIs k v = true := by
  cases k with
  | inl i => obtain ⟨t, rfl⟩ := r; exact keyIs_int i t
  | inr x => obtain ⟨t, rfl⟩ := r; exact keyIs_str x t
theorem vals_get : ∀ {xs : List V} {us : List Value}, Vals xs us → ∀ (i : Nat) (u : Value), us[i]? = some u → ∃ x, xs[i]? = some x ∧ RelV x u
  | _, _, .nil, i, u, h => by simp at h
  | _, _, .cons a r, 0, u, h => by
    simp at h
    subst h
    exact ⟨_, rfl, a⟩
  | _, _, .cons a r, i + 1, u, h => by
    obtain ⟨x, h1, h2⟩ := vals_get r i u (by simpa using h)
    exact ⟨x, by simpa using h1, h2⟩
theorem cr_mkSet (hc : X.calm = true) : CallR X (.type "set") (rMkSet X) := by
  intro pins s σ H xs us Q I r h
  rcases h with ⟨a, ks, rfl, hs, hb, q⟩ | ⟨x, rfl, hb, q⟩
  · obtain ⟨its, rv, hl, hz⟩ := I.list hs
    rw [Vals.ref1 r]
    have hlen := rv.length
    rw [List.length_map] at hlen
    refine call_setG_list (val := fun i => ks.getD i (.inl 0)) (I.ok.hd hc) hl.isList (fun i v hv => ?_) (by simpa [hlen] using hb) fun h' tk R k => ?_
    · obtain ⟨y, h1, h2⟩ := vals_get rv i v (by simpa using hv)
      rw [List.getElem?_map] at h1
      cases hk : ks[i]? with
      | none => rw [hk] at h1; cases h1
      | some k =>
        rw [hk] at h1
        cases h1
        rw [List.getD_eq_getElem?_getD, hk]
        exact keyIs_rel h2
    · have hsz : its.toArray.size = ks.length := by simp [hlen]
      rw [hsz, met_list] at R
      exact ⟨.ref _, upd H s.heap.objs.size (SetGO X.w s.heap.objs.size (ks.foldl addK [])), I.laid (t' := tk) k (Nat.le_refl _) (setGO_new R), rfl, q _ (I.hok.fresh (Nat.le_refl _))⟩
  · obtain ⟨u, rfl, t, rfl⟩ := vals1 r
    refine call_setG_text (val := fun i => (x.cps.toList.map fun c => (Sum.inr ⟨#[c]⟩ : Key)).getD i (.inl 0)) (I.ok.hd hc) (fun i v hv => ?_) hb fun h' tk R k => ?_
    · obtain ⟨c, u, hc, rfl⟩ := hv
      rw [List.getD_eq_getElem?_getD, List.getElem?_map, Array.getElem?_toList, hc]
      exact keyIs_str _ u
    · have hsz : x.cps.size = (x.cps.toList.map fun c => (Sum.inr ⟨#[c]⟩ : Key)).length := by simp
      rw [hsz, met_list] at R
      exact ⟨.ref _, upd H s.heap.objs.size (SetGO X.w s.heap.objs.size ((x.cps.toList.map fun c => (Sum.inr ⟨#[c]⟩ : Key)).foldl addK [])), I.laid (t' := tk) k (Nat.le_refl _) (setGO_new R), rfl, q _ (I.hok.fresh (Nat.le_refl _))⟩
/-- sorted(a set) -/
def rSortG (X : Cx) : List V → Hp → VK → Prop := fun vs H Q => ∃ (a : Addr) (ks : List Key), vs = [V.ref a] ∧ H a = some (SetGO X.w a ks) ∧
  ((∃ ns : List Int, ks = ns.map Sum.inl ∧ ∀ (ns' : List Int) (p : Addr), ns'.Perm ns → ns'.Pairwise (· ≤ ·) → H p = none → Q (.ref p) (upd H p (.lst (ns'.map V.int)))) ∨
    ∃ xs : List Str, ks = xs.map Sum.inr ∧ ∀ (ys : List Str) (p : Addr), ys.Perm xs → sortedS ys = true → H p = none → Q (.ref p) (upd H p (.lst (ys.map V.str))))
theorem sorted_at {pins : List (Addr × Obj)} {σ : L2.St} {H : Hp} {s : Shared} {Q : VK} {vs : List V} {out : Array Value} (I : Inv X pins σ H s) (hv : Vals vs out.toList) (hl : vs.length ≤ sizeLine)
    (q : ∀ p, H p = none → Q (.ref p) (upd H p (.lst vs))) : SortedEnd s (EP X pins σ Q) out := by
  intro s' p c k g o hp hg
  have hn : H p = none := I.hok.fresh hp
  have J : Inv X pins σ (upd H p (.lst vs)) { s with heap := s'.heap, gens := s'.gens, drawn := s'.drawn, toks := s'.toks } :=
    I.call (ch := []) (Un.laid k hp hn) (I.hok.laid k hp ⟨hl, out.toList, c, hv, hg⟩) (by rw [g]; exact I.bare) (fun _ z => nomatch z)
  have e : s' = { s with heap := s'.heap, gens := s'.gens, drawn := s'.drawn, toks := s'.toks } := by
    cases s'
    cases s
    cases o
    rfl
  rw [e]
  exact ⟨.ref p, _, J, rfl, q p hn⟩
theorem setG_few {w : World} {h : Heap} {a : Addr} {ks : List Key} (R : SetG w h a ks) : ks.length ≤ sizeLine := by
  obtain ⟨o, el, ep, tb, _, _, _, _, pm, _, hb, _⟩ := R
  have := pm.length_eq
  rw [List.length_map, Array.length_toList] at this
  have := fits_of_scanBound hb
  omega
theorem cr_sortG (hc : X.calm = true) : CallR X (.builtin "sorted") (rSortG X) := by
  intro pins s σ H vs us Q I r h
  obtain ⟨a, ks, rfl, ha, h⟩ := h
  have R := setGO_get I ha
  have few := setG_few R
  rw [Vals.ref1 r]
  rcases h with ⟨ns, rfl, q⟩ | ⟨xs, rfl, q⟩
  · refine sorted_setG_ints R (I.ok.hd hc) fun out ns' hi pm hs => sorted_at I (vals_of_ints hi) ?_ fun p hp => q ns' p pm hs hp
    rw [List.length_map] at few ⊢
    rw [pm.length_eq]; exact few
  · refine sorted_setG_strs R (I.ok.hd hc) fun out ys hi pm hs => sorted_at I (vals_of_strs hi) ?_ fun p hp => q ys p pm hs hp
    rw [List.length_map] at few ⊢
    rw [pm.length_eq]; exact few
/-- sorted(a list of texts), any number -/
theorem cr_sortedSA : CallR X (.builtin "sorted") (fun vs H Q => ∃ (a : Addr) (xs : List Str), vs = [V.ref a] ∧ SqL X.K H a (xs.map V.str) ∧ ∀ (ys : List Str) (p : Addr), ys.Perm xs → sortedS ys = true → H p = none → Q (.ref p) (upd H p (.lst (ys.map V.str)))) := by
  intro pins s σ H vs us Q I r h
  obtain ⟨a, xs, rfl, hs, q⟩ := h
  obtain ⟨its, rv, hl, hz⟩ := I.list hs
  rw [Vals.ref1 r]
  have len0 := rv.length
  refine PyProof.Rows.sorted_strsAny hl.isList rv.strs (by rw [← len0]; exact hz) fun out ys h1 h2 h3 => ?_
  obtain ⟨ep, he⟩ := PyProof.Rows.sortedAll_at s.heap its out
  have len : (ys.map V.str).length ≤ sizeLine := by rw [List.length_map, h2.length_eq]; rw [List.length_map] at hz; exact hz
  exact ⟨.ref _, upd H (s.heap.objs.size + 1) (.lst (ys.map V.str)), I.laid (t' := s.toks) (fun _ _ => PyProof.Rows.sortedAll_old) (Nat.le_succ _) ⟨len, out.toList, ep, vals_of_strs h1, he⟩, rfl, q ys _ h2 h3 (I.hok.fresh (Nat.le_succ _))⟩
end
/-! the only arrangement -/
theorem ints_only {ns ns' : List Int} (p : ns'.Perm ns) (s : ns'.Pairwise (· ≤ ·)) : ns' = srt leI ns := srt_only leI_tot leI_tr leI_an p (s.imp fun h => by simpa [leI] using h)
theorem rising_pw : ∀ (xs : List Str) (p : Str), risingS p xs = true → (∀ x ∈ xs, leS (unS p) (unS x) = true) ∧ xs.Pairwise fun a b => leS (unS a) (unS b) = true
  | [], _, _ => ⟨by simp, List.Pairwise.nil⟩
  | x :: xs, p, h => by
    have h' : (!ltCps x.cps.toList p.cps.toList && risingS x xs) = true := h
    rw [Bool.and_eq_true] at h'
    obtain ⟨h1, h2⟩ := h'
    obtain ⟨i1, i2⟩ := rising_pw xs x h2
    have h0 : leS (unS p) (unS x) = true := by
      rw [ltCps_eq] at h1
      unfold leS
      rw [decide_eq_true_eq]
      intro z
      have : (!decide (x.cps.toList < p.cps.toList)) = false := by rw [decide_eq_true (show x.cps.toList < p.cps.toList from z)]; rfl
      rw [this] at h1
      cases h1
    refine ⟨fun y hy => ?_, List.pairwise_cons.mpr ⟨i1, i2⟩⟩
    rcases List.mem_cons.mp hy with rfl | hy
    · exact h0
    · exact leS_tr _ _ _ h0 (i1 y hy)
theorem sortedS_pw : ∀ {xs : List Str}, sortedS xs = true → xs.Pairwise fun a b => leS (unS a) (unS b) = true
  | [], _ => List.Pairwise.nil
  | x :: xs, h => List.pairwise_cons.mpr ⟨(rising_pw xs x h).1, (rising_pw xs x h).2⟩
theorem strs_only {xs ys : List Str} (p : ys.Perm xs) (s : sortedS ys = true) : ys.map unS = srt leS (xs.map unS) :=
  srt_only leS_tot leS_tr leS_an (p.map unS) (List.pairwise_map.mpr (sortedS_pw s))
theorem mkS_map (ys : List Str) : (ys.map unS).map mkS = ys := by
  rw [List.map_map]
  have : (mkS ∘ unS) = id := funext fun x => mkS_unS x
  rw [this, List.map_id]
theorem unS_map (ss : List (List Nat)) : (ss.map mkS).map unS = ss := by
  rw [List.map_map]
  have : (unS ∘ mkS) = id := funext fun x => unS_mkS x
  rw [this, List.map_id]
theorem addK_ints : ∀ (ns acc : List Int), (ns.map (Sum.inl : Int → Key)).foldl addK (acc.map Sum.inl) = (ns.foldl ded1 acc).map Sum.inl
  | [], _ => rfl
  | n :: ns, acc => by
    rw [List.map_cons, List.foldl_cons, List.foldl_cons, ← addK_ints ns]
    congr 1
    unfold ded1
    by_cases h : n ∈ acc
    · rw [if_pos h, addK_in (List.mem_map.mpr ⟨n, h, rfl⟩)]
    · rw [if_neg h, addK_out (fun z => by
        obtain ⟨m, hm, e⟩ := List.mem_map.mp z
        cases e
        exact h hm), List.map_append]
      rfl
theorem addK_strs : ∀ (ss acc : List (List Nat)), (ss.map fun s => (Sum.inr (mkS s) : Key)).foldl addK (acc.map fun s => Sum.inr (mkS s)) = (ss.foldl ded1 acc).map fun s => Sum.inr (mkS s)
  | [], _ => rfl
  | n :: ns, acc => by
    rw [List.map_cons, List.foldl_cons, List.foldl_cons, ← addK_strs ns]
    congr 1
    unfold ded1
    by_cases h : n ∈ acc
    · rw [if_pos h, addK_in (List.mem_map.mpr ⟨n, h, rfl⟩)]
    · rw [if_neg h, addK_out (fun z => by
        obtain ⟨m, hm, e⟩ := List.mem_map.mp z
        have e2 := mkS_inj (Sum.inr.inj e)
        subst e2
        exact h hm), List.map_append]
      rfl

section
variable {K : PySem.W.Frag} {F : Addr → Prop} {H : Hp}
theorem RepL.dstrs : ∀ {vs : List V} {ds : List D} {ss : List (List Nat)}, RepL K F H vs ds → DL.dstrs ds = some ss → vs = ss.map fun s => V.str (mkS s)
  | _, _, ss, .nil, h => by cases h; rfl
  | _, _, ss, .cons a t, h => by
    cases a <;> simp only [DL.dstrs, reduceCtorEq, Option.map_eq_some_iff] at h
    obtain ⟨ms, h1, rfl⟩ := h
    rw [RepL.dstrs t h1]; rfl
theorem repL_ints : ∀ ns : List Int, RepL K F H (ns.map V.int) (ns.map D.int)
  | [] => .nil
  | n :: ns => .cons (.int n) (repL_ints ns)
theorem repL_strs : ∀ ss : List (List Nat), RepL K F H (ss.map fun s => V.str (mkS s)) (ss.map D.str)
  | [] => .nil
  | s :: ss => .cons (.str s) (repL_strs ss)
end
section
variable {clsV : Nat → Value} {X : Cx} {W : WX} {a b c e : Expr} {es : List Expr} {pos : Pos} {ma mb mc : Sem Opd}
/-- the ends behind a new thing -/
theorem EndC.later {F : Addr → Prop} {H : Hp} {own : Ow} {ρ : Env} {σ : St} {Q : VK} {c : Cell} {p : Addr} {u : HO} {K : PySem.W.Frag} (k : EndC K F H own ρ σ Q c) (e : ER K F H own ρ σ) (hp : H p = none) :
    EndC K F (upd H p u) own ρ σ Q c := fun b F' H' own' e' s' r => k b F' H' own' e' ((Stp.new (own := own) e.fdom hp).trans s') (back_C.run (Stp.new (own := own) e.fdom hp) r)
def rSortSet (X : Cx) : List V → Hp → VK → Prop := fun vs H Q => rMkSet X vs H fun x H2 => rSortG X [x] H2 Q
theorem sortSet_strs {F : Addr → Prop} {H : Hp} {own : Ow} {ρ : Env} {σ : St} {Q : VK} {ss : List (List Nat)} (er : ER X.K F H own ρ σ) (k : EndC X.K F H own ρ σ Q (.ow (.lst ((srt leS (ded ss)).map D.str)))) {ks : List Key} (hk : ks = ss.map fun s => Sum.inr (mkS s)) :
    ∀ p, H p = none → rSortG X [.ref p] (upd H p (SetGO X.w p (ks.foldl addK []))) Q := fun p hp => by
  subst hk
  refine ⟨p, _, rfl, upd_same, .inr ⟨(ded ss).map mkS, ?_, fun ys p2 pm st hp2 => ?_⟩⟩
  · have q := addK_strs ss []
    rw [List.map_nil] at q
    rw [q, List.map_map]
    rfl
  · have q := strs_only pm st
    rw [unS_map] at q
    have q2 : ys.map V.str = (srt leS (ded ss)).map fun s => V.str (mkS s) := by
      rw [← q, List.map_map]
      refine List.map_congr_left fun y _ => ?_
      show V.str y = V.str (mkS (unS y))
      rw [mkS_unS]
    rw [q2]
    exact (k.later er hp).lst (er.new hp) (repL_strs _) p2 hp2
theorem sortSet_k : BkOk X (rSortSet X) bSortSet := by
  intro F H own ρ σ Q vs ds c er rd hf k
  have hbd : (4096 : Nat) = scanBound := rfl
  match ds, rd, hf with
  | [.lst xs], .cons r .nil, hf =>
    simp only [bSortSet, Option.ite_none_right_eq_some] at hf
    obtain ⟨hl, hf⟩ := hf
    obtain ⟨a, us, rfl, ha, ra⟩ := r.lst
    have hlen := ra.length
    cases hi : dints xs with
    | some ns =>
      rw [hi] at hf
      cases hf
      obtain rfl := ra.dints hi
      rw [List.length_map] at hlen
      refine .inl ⟨a, ns.map Sum.inl, rfl, ?_, by rw [List.length_map, ← hbd]; omega, fun p hp => ⟨p, _, rfl, upd_same, .inl ⟨ded ns, addK_ints ns [], fun ns' p2 pm st hp2 => ?_⟩⟩⟩
      · rw [List.map_map]
        exact .inl ha
      · rw [ints_only pm st]
        exact (k.later er hp).lst (er.new hp) (repL_ints _) p2 hp2
    | none =>
      rw [hi] at hf
      simp only [Option.map_eq_some_iff] at hf
      obtain ⟨ss, hs, rfl⟩ := hf
      obtain rfl := ra.dstrs hs
      rw [List.length_map] at hlen
      refine .inl ⟨a, ss.map fun s => Sum.inr (mkS s), rfl, ?_, by rw [List.length_map, ← hbd]; omega, sortSet_strs er k rfl⟩
      rw [List.map_map]
      exact .inl ha
  | [.str s], .cons r .nil, hf =>
    simp only [bSortSet, Option.ite_none_right_eq_some, Option.some.injEq] at hf
    obtain ⟨hl, rfl⟩ := hf
    rw [r.str]
    refine .inr ⟨_, rfl, by rw [← hbd]; simp; omega, sortSet_strs er k ?_⟩
    rw [List.map_map]
    show (s.toArray.toList.map _) = _
    rw [List.toList_toArray]
    rfl
theorem e_sortSet {p p2 pos2 : Pos} {m : Sem (List Opd)} (hc : X.calm = true) (hg : Gl X "sorted") (hm : X.mg "sorted" = none) (hg2 : Gl X "set") (hm2 : X.mg "set" = none) (ha : EOs clsV W X [a] m)
    (he2 : starEach [a] X.env = (false, eval a X.env) :: starEach [] X.env := by rfl)
    (he : starEach [.Call (.Name "set" p2) [a] [] pos2] X.env = (false, eval (.Call (.Name "set" p2) [a] [] pos2) X.env) :: starEach [] X.env := by rfl) :
    EC clsV W X (.Call (.Name "sorted" p) [.Call (.Name "set" p2) [a] [] pos2] [] pos) (sB bSortSet m) :=
  PE.imp (pe_callB (cr_sortG hc) hg hm (by decide +kernel) (pa_cons (pe_callTy (cr_mkSet hc) hg2 hm2 (by decide +kernel) ha (by decide) (by decide) he2 rfl) pa_nil he) (by decide) (by decide) he rfl) fun σ H Q h =>
    wp_sB (r := rSortSet X) sortSet_k (fun _ _ q => q) h
theorem sorted_k : BkOk X (fun vs H Q => rSortedI X.K vs H Q ∨ ∃ (a : Addr) (xs : List Str), vs = [V.ref a] ∧ SqL X.K H a (xs.map V.str) ∧ ∀ (ys : List Str) (p : Addr), ys.Perm xs → sortedS ys = true → H p = none → Q (.ref p) (upd H p (.lst (ys.map V.str)))) bSorted := by
  intro F H own ρ σ Q vs ds c er rd hf k
  match ds, rd, hf with
  | [.lst xs], .cons r .nil, hf =>
    simp only [bSorted] at hf
    obtain ⟨a, us, rfl, ha, ra⟩ := r.lst
    cases hi : dints xs with
    | some ns =>
      rw [hi] at hf
      cases hf
      obtain rfl := ra.dints hi
      refine .inl ⟨a, ns, rfl, .inl ha, fun ns' p pm st hp => ?_⟩
      rw [ints_only pm st]
      exact k.lst er (repL_ints _) p hp
    | none =>
      rw [hi] at hf
      simp only [Option.map_eq_some_iff] at hf
      obtain ⟨ss, hs, rfl⟩ := hf
      obtain rfl := ra.dstrs hs
      refine .inr ⟨a, ss.map mkS, rfl, by rw [List.map_map]; exact .inl ha, fun ys p pm st hp => ?_⟩
      have q := strs_only pm st
      rw [unS_map] at q
      have q2 : ys.map V.str = (srt leS ss).map fun s => V.str (mkS s) := by
        rw [← q, List.map_map]
        refine List.map_congr_left fun y _ => ?_
        show V.str y = V.str (mkS (unS y))
        rw [mkS_unS]
      rw [q2]
      exact k.lst er (repL_strs _) p hp
theorem e_sorted {p : Pos} {m : Sem (List Opd)} (hg : Gl X "sorted") (hm : X.mg "sorted" = none) (ha : EOs clsV W X [a] m) (he : starEach [a] X.env = (false, eval a X.env) :: starEach [] X.env := by rfl) :
    EC clsV W X (.Call (.Name "sorted" p) [a] [] pos) (sB bSorted m) := e_blt (cr_sortedI.or cr_sortedSA) sorted_k hg hm (by decide +kernel) ha (by decide) (by decide) he rfl
/-! join -/
theorem glue_eq (y : List Nat) : ∀ ss : List (List Nat), Txt.join (mkS y) (ss.map mkS) = mkS (joinT y ss) := by
  intro ss
  rw [TL.join_eq]
  apply unS_inj
  rw [unS_mkS]
  show TL.tl _ = _
  rw [TL.tl_join]
  have : ∀ ss : List (List Nat), TL.joinL (TL.tl (mkS y)) ((ss.map mkS).map TL.tl) = joinT y ss := by
    intro ss
    induction ss with
    | nil => rfl
    | cons p r ih =>
      cases r with
      | nil => show TL.tl (mkS p) = p; exact unS_mkS p
      | cons q r =>
        show TL.tl (mkS p) ++ (TL.tl (mkS y) ++ TL.joinL (TL.tl (mkS y)) (((q :: r).map mkS).map TL.tl)) = p ++ (y ++ joinT y (q :: r))
        rw [ih]
  exact this ss
theorem e_join {x : Str} {sep : List Nat} {pos' apos : Pos} {ju : Nat} (hsep : unS x = sep) (ha : EO clsV W X a ma) (hs : starEach [a] X.env = [(false, eval a X.env)] := by rfl)
    (hbase : attributeBase (.Constant (.str x) ju pos') "join" X.env (eval (.Constant (.str x) ju pos') X.env) = eval (.Constant (.str x) ju pos') X.env := by rfl) (hline : (apos.endLine == pos.line) = true := by rfl) :
    EC clsV W X (.Call (.Attribute (.Constant (.str x) ju pos') "join" apos) [a] [] pos) (s1 ma (bJoin1 sep)) :=
  PE.imp (pe_join pe_str ha hs hbase hline) fun σ H Q h => ⟨⟨x, rfl⟩, wp_s1 back_C (fun _ _ q => q) h fun F H2 own ρ v d c er r hf k => by
    subst hsep
    cases d <;> simp only [bJoin1, bJoin, reduceCtorEq] at hf
    rename_i xs
    simp only [Option.bind_eq_some_iff, Option.ite_none_right_eq_some, Option.some.injEq] at hf
    obtain ⟨ss, hs, hl, rfl⟩ := hf
    obtain ⟨p, us, rfl, hp, ra⟩ := r.lst
    obtain rfl := ra.dstrs hs
    refine ⟨x, p, ss.map mkS, rfl, rfl, .inl (.inl (by rw [List.map_map]; exact hp)), ?_, ?_⟩
    · have e1 : ((ss.map mkS).map (·.length)) = ss.map List.length := by
        rw [List.map_map]
        refine List.map_congr_left fun s _ => ?_
        exact mkS_len s
      rw [e1, List.length_map]
      have e2 : x.length = (unS x).length := by rw [← mkS_len, mkS_unS]
      rw [e2]
      exact hl
    · have q := glue_eq (unS x) ss
      rw [mkS_unS] at q
      rw [q]
      exact EndC.same k er (.str _)⟩
/-- a module's text -/
theorem xks {x : Str} {s : List Nat} {pos : Pos} (hm : ∃ z t, X.mg x = some (.str z t) ∧ unS z = s) (hg : Gl X x) (hd : (x == ("__debug__" : Str)) = false := by decide) : EC clsV W X (.Name x pos) (sK (.str s)) := by
  obtain ⟨z, t, hm, rfl⟩ := hm
  exact e_glob (v := .str z) hg hm ⟨t, rfl⟩ (fun F H => by have := RepD.str (K := X.K) (F := F) (H := H) (unS z); rwa [mkS_unS] at this) hd
end
end DL
/-! DL over the model, 17: what never runs; list(range(n)). -/
namespace DL
open PySem PySem.Spec PyProof.Rows L2
section
variable {clsV : Nat → Value} {X : Cx} {W : WX} {a b c e : Expr} {es : List Expr} {pos : Pos} {ma mb mc : Sem Opd}
/-- what never runs -/
theorem e_bad : EC clsV W X e (fun _ => .bad) := ⟨fun pins s σ H Q I h => by
  obtain ⟨_, _, _, _, h⟩ := h
  exact h.elim⟩
theorem cr_range1 : CallR X (.type "range") (fun vs H Q => ∃ i, vs = [V.int i] ∧ ∀ p, H p = none → Q (.ref p) (upd H p (.rng 0 i))) := by
  intro pins s σ H vs us Q I r h
  obtain ⟨i, rfl, q⟩ := h
  obtain ⟨u, rfl, t, rfl⟩ := vals1 r
  refine call_range_1 ⟨.ref s.heap.objs.size, upd H s.heap.objs.size (.rng 0 i), I.laid (t' := s.toks + 1 + 1) (fun b o e => Heap.get?_push_of_some _ e) (Nat.le_refl _) ?_, rfl, q _ (I.hok.fresh (Nat.le_refl _))⟩
  exact ⟨s.toks, t, s.toks + 1, Heap.get?_push_size _ rfl⟩
theorem cr_listRng (hc : X.calm = true) : CallR X (.type "list") (fun vs H Q => ∃ (p : Addr) (n : Nat), vs = [V.ref p] ∧ H p = some (.rng 0 n) ∧ n ≤ 2 ^ 24 ∧ ∀ q, H q = none → Q (.ref q) (upd H q (.lst ((List.range n).map fun k : Nat => V.int (0 + (k : Int)))))) := by
  intro pins s σ H vs us Q I r h
  obtain ⟨p, n, rfl, hp, hn, q⟩ := h
  rw [Vals.ref1 r]
  obtain ⟨t, u, v, hob⟩ := I.hok p _ hp
  have hp2 : (2 : Nat) ^ 24 = 16777216 := rfl
  have hp3 : (2 : Int) ^ 62 = 4611686018427387904 := rfl
  have hsm : Builtin.Range.small 0 (n : Int) 1 = true := small_one (by omega) (by omega) (by omega) (by omega)
  have hsz : Builtin.Range.rangeSize 0 (n : Int) 1 = (n : Int) := by
    rw [rangeSize_one]
    split <;> omega
  refine call_list_range (n := n) (I.ok.hd hc) (a := 0) (b := n) (c := 1) (t := t) (u := u) (v := v) hob hsm hsz hn fun h' tk acc' c' kp e hi => ?_
  obtain ⟨hs, hi⟩ := hi
  have hv : Vals ((List.range n).map fun k : Nat => V.int (0 + (k : Int))) acc'.toList := vals_at (by rw [List.length_map, List.length_range, Array.length_toList]; exact hs.symm) fun j y w h1 h2 => by
    have h2' : acc'[j]? = some w := by rw [← Array.getElem?_toList]; exact h2
    obtain ⟨tk, rfl⟩ := hi j w h2'
    rw [List.getElem?_map] at h1
    have hj : j < n := by
      have := (Array.getElem?_eq_some_iff.mp h2').1
      rw [hs] at this; exact this
    rw [List.getElem?_range hj] at h1
    cases h1
    exact ⟨tk, by rw [Int.mul_one]⟩
  refine ⟨.ref s.heap.objs.size, _, I.laid (t' := tk) kp (Nat.le_refl _) (show ObjOk X.prog X.w _ h' _ (.lst _) from ⟨?_, acc'.toList, c', hv, by simpa using e⟩), rfl, q _ (I.hok.fresh (Nat.le_refl _))⟩
  rw [List.length_map, List.length_range, sizeLine_eq]; omega
def rListR (X : Cx) : List V → Hp → VK → Prop := fun vs H Q => ∃ i, vs = [V.int i] ∧ ∀ p, H p = none → ∃ (p' : Addr) (n : Nat), [V.ref p] = [V.ref p'] ∧ (upd H p (.rng 0 i)) p' = some (.rng 0 n) ∧ n ≤ 2 ^ 24 ∧ ∀ q, (upd H p (.rng 0 i)) q = none → Q (.ref q) (upd (upd H p (.rng 0 i)) q (.lst ((List.range n).map fun k : Nat => V.int (0 + (k : Int)))))
theorem repL_rng {K : PySem.W.Frag} {F : Addr → Prop} {H : Hp} : ∀ ns : List Nat, RepL K F H (ns.map fun k : Nat => V.int (0 + (k : Int))) (ns.map fun k : Nat => D.int (0 + (k : Int)))
  | [] => .nil
  | n :: ns => .cons (.int _) (repL_rng ns)
theorem listR_k : BkOk X (rListR X) bListR := by
  intro F H own ρ σ Q vs ds c er rd hf k
  match ds, rd, hf with
  | [.int i], .cons r .nil, hf =>
    simp only [bListR, Option.ite_none_right_eq_some, Option.some.injEq] at hf
    obtain ⟨⟨h1, h2⟩, rfl⟩ := hf
    rw [r.int]
    refine ⟨i, rfl, fun p hp => ⟨p, i.toNat, rfl, ?_, ?_, fun q hq => ?_⟩⟩
    · rw [upd_same, Int.toNat_of_nonneg h1]
    · omega
    · exact (k.later er hp).lst (er.new hp) (repL_rng _) q hq
theorem e_listR {p p2 pos2 : Pos} {m : Sem (List Opd)} (hc : X.calm = true) (hg : Gl X "list") (hm : X.mg "list" = none) (hg2 : Gl X "range") (hm2 : X.mg "range" = none) (ha : EOs clsV W X [a] m)
    (he2 : starEach [a] X.env = (false, eval a X.env) :: starEach [] X.env := by rfl)
    (he : starEach [.Call (.Name "range" p2) [a] [] pos2] X.env = (false, eval (.Call (.Name "range" p2) [a] [] pos2) X.env) :: starEach [] X.env := by rfl) :
    EC clsV W X (.Call (.Name "list" p) [.Call (.Name "range" p2) [a] [] pos2] [] pos) (sB bListR m) :=
  PE.imp (pe_callTy (cr_listRng hc) hg hm (by decide +kernel) (pa_cons (pe_callTy cr_range1 hg2 hm2 (by decide +kernel) ha (by decide) (by decide) he2 rfl) pa_nil he) (by decide) (by decide) he rfl) fun σ H Q h =>
    wp_sB (r := rListR X) listR_k (fun _ _ q => q) h
end
end DL
/-! DL over the model, 18: len(set(x)). -/
namespace DL
open PySem PySem.Spec PyProof.Rows L2
section
variable {X : Cx}
theorem cr_lenG : CallR X (.builtin "len") (fun vs H Q => ∃ (a : Addr) (ks : List Key), vs = [V.ref a] ∧ H a = some (SetGO X.w a ks) ∧ Q (.int ((ks.length : Nat) : Int)) H) := by
  intro pins s σ H vs us Q I r h
  obtain ⟨a, ks, rfl, ha, q⟩ := h
  have R := setGO_get I ha
  rw [Vals.ref1 r]
  have few := setG_few R
  obtain ⟨o, el, ep, tb, ho, hex, hd, g, pm0, nd, hb, hf, hr, hl⟩ := R
  have hn : el.size = ks.length := by
    have := pm0.length_eq
    rwa [List.length_map, Array.length_toList] at this
  refine call_len_set ho hex hd hf ?_ ⟨.int ((ks.length : Nat) : Int), H, I.tok _, ⟨_, by rw [hn]⟩, q⟩
  rw [hn]
  rw [sizeLine_eq] at few
  omega
end
section
variable {clsV : Nat → Value} {X : Cx} {W : WX} {a b c e : Expr} {es : List Expr} {pos : Pos} {ma mb mc : Sem Opd}
def rLenSet (X : Cx) : List V → Hp → VK → Prop := fun vs H Q => rMkSet X vs H fun x H2 => ∃ (a : Addr) (ks : List Key), [x] = [V.ref a] ∧ H2 a = some (SetGO X.w a ks) ∧ Q (.int ((ks.length : Nat) : Int)) H2
theorem EndC.new {F : Addr → Prop} {H : Hp} {own : Ow} {ρ : Env} {σ : St} {Q : VK} {i : Int} {p : Addr} {u : HO} {K : PySem.W.Frag} (k : EndC K F H own ρ σ Q (.fr (.int i))) (e : ER K F H own ρ σ) (hp : H p = none) : Q (.int i) (upd H p u) :=
  (k.later e hp).same (e.new hp) (.int i)
theorem lenSet_k : BkOk X (rLenSet X) bLenSet := by
  intro F H own ρ σ Q vs ds c er rd hf k
  have hbd : (4096 : Nat) = scanBound := rfl
  match ds, rd, hf with
  | [.lst xs], .cons r .nil, hf =>
    simp only [bLenSet, Option.ite_none_right_eq_some] at hf
    obtain ⟨hl, hf⟩ := hf
    obtain ⟨a, us, rfl, ha, ra⟩ := r.lst
    have hlen := ra.length
    cases hi : dints xs with
    | some ns =>
      rw [hi] at hf
      cases hf
      obtain rfl := ra.dints hi
      rw [List.length_map] at hlen
      refine .inl ⟨a, ns.map Sum.inl, rfl, ?_, by rw [List.length_map, ← hbd]; omega, fun p hp => ⟨p, _, rfl, upd_same, ?_⟩⟩
      · rw [List.map_map]
        exact .inl ha
      · have q := addK_ints ns []
        rw [List.map_nil] at q
        rw [q, List.length_map]
        exact k.new er hp
    | none =>
      rw [hi] at hf
      simp only [Option.map_eq_some_iff] at hf
      obtain ⟨ss, hs, rfl⟩ := hf
      obtain rfl := ra.dstrs hs
      rw [List.length_map] at hlen
      refine .inl ⟨a, ss.map fun s => Sum.inr (mkS s), rfl, ?_, by rw [List.length_map, ← hbd]; omega, fun p hp => ⟨p, _, rfl, upd_same, ?_⟩⟩
      · rw [List.map_map]
        exact .inl ha
      · have q := addK_strs ss []
        rw [List.map_nil] at q
        rw [q, List.length_map]
        exact k.new er hp
  | [.str s], .cons r .nil, hf =>
    simp only [bLenSet, Option.ite_none_right_eq_some, Option.some.injEq] at hf
    obtain ⟨hl, rfl⟩ := hf
    rw [r.str]
    refine .inr ⟨_, rfl, by rw [← hbd]; simp; omega, fun p hp => ⟨p, _, rfl, upd_same, ?_⟩⟩
    have e : ((mkS s).cps.toList.map fun c => (Sum.inr ⟨#[c]⟩ : Key)) = (s.map fun c => [c]).map fun s => Sum.inr (mkS s) := by
      rw [List.map_map]
      show (s.toArray.toList.map _) = _
      rw [List.toList_toArray]
      rfl
    have q := addK_strs (s.map fun c => [c]) []
    rw [List.map_nil] at q
    rw [e, q, List.length_map]
    exact k.new er hp
theorem e_lenSet {p p2 pos2 : Pos} {m : Sem (List Opd)} (hc : X.calm = true) (hg : Gl X "len") (hm : X.mg "len" = none) (hg2 : Gl X "set") (hm2 : X.mg "set" = none) (ha : EOs clsV W X [a] m)
    (he2 : starEach [a] X.env = (false, eval a X.env) :: starEach [] X.env := by rfl)
    (he : starEach [.Call (.Name "set" p2) [a] [] pos2] X.env = (false, eval (.Call (.Name "set" p2) [a] [] pos2) X.env) :: starEach [] X.env := by rfl) :
    EC clsV W X (.Call (.Name "len" p) [.Call (.Name "set" p2) [a] [] pos2] [] pos) (sB bLenSet m) :=
  PE.imp (pe_callB cr_lenG hg hm boot_len (pa_cons (pe_callTy (cr_mkSet hc) hg2 hm2 (by decide +kernel) ha (by decide) (by decide) he2 rfl) pa_nil he) (by decide) (by decide) he rfl) fun σ H Q h =>
    wp_sB (r := rLenSet X) lenSet_k (fun _ _ q => q) h
end
end DL
/-! DL over the model, 19: sorted by a key (len, order_of). -/
namespace DL
open PySem PySem.Spec PyProof.Rows L2
/-- what a name holds, the state as it is -/
theorem ld_var {X : Cx} {E : Value → Shared → Prop} {pins : List (Addr × Obj)} {s : Shared} {σ : St} {H : Hp} {i : Nat} {x : Str} {v : V} {pos : Pos} {Q : Value → Shared → Prop} (I : Inv X pins σ H s) (hN : X.N[i]? = some x) (hv : Vis X.env.scope x) (e : σ[i]? = some (some v))
    (h : ∀ u, RelV v u → Q u s) (hd : (x == ("__debug__" : Str)) = false := by decide) (hcd : (x == ("__classdict__" : Str)) = false := by decide) : wpAny (model X.prog X.w) X.A (eval (.Name x pos) X.env) Q E s := by
  obtain ⟨m, hn, hl⟩ := I.loc
  obtain ⟨u, r, l⟩ := hl i x v hN e hv
  have fin := h u r
  rcases l with ⟨hk, hm⟩ | ⟨hk, c, hc, hcell⟩
  · exact wpAny_Name (wpAny_loadName_local I.ok.kind hk hn hm fin) hd
  · rcases hk with hk | hk
    · exact wpAny_Name (wpAny_loadName_cell I.ok.kind hk hc hcell fin) hd
    · exact wpAny_Name (wpAny_loadName_free I.ok.kind hk hc hcell fin hcd) hd
theorem sz_fit : (sizeLine : Int) < 2 ^ 63 := by rw [sizeLine_eq]; decide
/-- a call order_of(x): what it makes is beside all that was there -/
theorem ord_call {P : Program} {w : World} {K : PySem.W.Frag} {mg : Str → Option Value} {base : Heap} {A : Around} {outer : List PySem.Env} {s : Shared} {H : Hp} {x : Str} {t : Tok} {f : Addr} {fd : FuncData} {st : Stmt} {N : List Str} {c} {p1 p2 p3 p4 p5 p6 : Pos}
    (FF : Fun K "order_of" "order_of" st f fd) (S : FnScope N ["word"] (defScope st)) (hb : Binds K fd ["word"] []) (hr : Room 0 A) (e0 : Env0 P w K mg base A outer s H)
    (hbody : defBody st = [.Return (some (.Tuple [.Call (.Name "len" p1) [.Name "word" p2] [] p3, .Name "word" p4] c p5)) p6])
    (hN : N[0]? = some ("word" : Str)) (hv : Vis (defScope st) "word") (hlen : (defScope st).names.lookup ("len" : Str) = some .globalImplicit) (hm : mg "len" = none) (hx : x.length ≤ sizeLine) :
    wpAny (model P w) A (call (.ref f) [.str x t]) (PySem.W.KeyPure (.tuple [.int x.length, .str x]) s) (fun _ _ => False) s := by
  obtain ⟨oc, od, kV, doc, pm, an, cdv, ct, osl, rfl, lk, hcd⟩ := FF.ex
  have KX : K.In s.heap := e0.mod.kin.keeps fun b o e => (e0.bs b o e).1
  have lim : s.heap.NoLimit := e0.mod.nolimit.keeps fun b o e => (e0.bs b o e).1
  have hkind : ∀ y ∈ [(("word" : Str), Value.str x t)], (defScope st).names.lookup y.1 = some .local ∨ ((defScope st).names.lookup y.1 = some .cell ∧ ((cellsFrom (s.heap.objs.size + 1) (defScope st).names []).lookup y.1).isSome = true) := fun ⟨n, v⟩ hy => by
    rcases S.par n (by simp at hy; simp [hy.1]) with q | q
    · exact .inl q
    · exact .inr ⟨q, PySem.W.cellsFrom_some _ _ _ (.inl q)⟩
  refine wpAny_call (codeAny_call_function hr.depth (KX _ _ lk) rfl S.co S.gen rfl (PySem.W.codeRec_of KX hcd) (hb s [.str x t] KX rfl _ _ _ _ ?_))
  refine wpAny_newFunctionEnv_cells S.kind hkind fun env he s1 z => ?_
  subst he
  refine ⟨lim.keeps z.toInCall.keep, codeAny_func ?_⟩
  have I : Inv (cxOf (L2.CX P w) P w K mg base N "order_of" (defScope st) f cdv A outer s H fun _ _ _ => False) [] (L2.start N [.str x]) H s1 := inv_start S hr.hd e0 rfl (Paired.cons (show RelV (.str x) (.str x t) from ⟨t, rfl⟩) .nil) z
  have hσ : (L2.start N [V.str x])[0]? = some (some (V.str x)) := rfl
  obtain ⟨h1, tk1, rfl⟩ := z.toInCall.same
  have keep := z.toInCall.keep
  rw [hbody]
  have env_eq : (cxOf (L2.CX P w) P w K mg base N "order_of" (defScope st) f cdv A outer s H fun _ _ _ => False).env = envOfC "order_of" (defScope st) s.heap.objs.size f cdv := rfl
  have hl : ¬ (x.length : Int) ≥ 2 ^ 63 := by have := sz_fit; omega
  refine wpAny_execs_cons (wpAny_Return_some (wpAny_Tuple_spliced ?_))
  refine Calls.spliced_cons (x := eval (.Call (.Name "len" p1) [.Name "word" p2] [] p3) (envOfC "order_of" (defScope st) s.heap.objs.size f cdv)) ?_
  refine wpAny_Call_Name_kw (ld_blt I hlen hm boot_len ?_)
  refine PyProof.Rows.callWith_builtin1 (Calls.spliced_cons (x := eval (.Name "word" p2) (envOfC "order_of" (defScope st) s.heap.objs.size f cdv)) (ld_var I (i := 0) hN hv hσ fun u ru => Calls.spliced_nil ?_)) rfl rfl
  obtain ⟨t2, rfl⟩ := ru
  refine len_str hl ?_
  refine Calls.spliced_cons (x := eval (.Name "word" p4) (envOfC "order_of" (defScope st) s.heap.objs.size f cdv)) (ld_var (I.tok _) (i := 0) hN hv hσ fun u ru => Calls.spliced_nil ?_)
  obtain ⟨t3, rfl⟩ := ru
  refine ⟨by rw [sizeLine_eq]; simp, ?_⟩
  refine ⟨_, _, rfl, fun b o q => Heap.get?_push_of_some _ (keep b o q), ?_⟩
  exact .tuple (Heap.get?_push_size _ rfl) rfl rfl (.cons (.int _ _) (.cons (.str _ _) .nil))
section
variable {X : Cx}
abbrev IsS (v : Value) (x : Str) : Prop := ∃ t, v = .str x t
theorem each_strs : ∀ {xs : List Str} {us : List Value}, Vals (xs.map V.str) us → PySem.W.EachIs IsS us xs
  | [], _, r => by cases r; exact .nil
  | x :: xs, _, .cons a r => .cons a (each_strs r)
theorem strs_each : ∀ {xs : List Str} {us : List Value}, PySem.W.EachIs IsS us xs → Vals (xs.map V.str) us
  | [], _, r => by cases r; exact .nil
  | x :: xs, _, .cons a r => .cons a (strs_each r)
/-- what is asked of a key -/
structure KeyOk (X : Cx) (s : Shared) (kv : Value) (k : Str → PyData) (xs : List Str) : Prop where
  hal : PySem.W.AllAlike (xs.map k)
  hsb : PySem.W.Sortable (xs.map k)
  hu : ∀ x, x ∈ xs → X.A.units + 2 + (k x).depth < cLine
  ht : ∀ x, Builtin.«list.sort» ⟨[.ref x], [(Str.ofString "key", kv)]⟩ = ksk_tree x kv false
  turn : ∀ (v : Value) (x : Str), IsS v x → x ∈ xs → ∀ (h : Heap) (tk : Nat), (∀ b o, s.heap.get? b = some o → h.get? b = some o) →
      wpAny (model X.prog X.w) X.A.in1.in1 (call kv [v]) (PySem.W.KeyPure (k x) { s with heap := h, toks := tk }) (fun _ _ => False) { s with heap := h, toks := tk }
theorem sortKey_run {pins : List (Addr × Obj)} {σ : St} {H : Hp} {s : Shared} {Q : VK} {kv : Value} {a : Addr} {xs : List Str} {k : Str → PyData} (I : Inv X pins σ H s) (hs : SqL X.K H a (xs.map V.str)) (ko : KeyOk X s kv k xs)
    (q : ∀ p, H p = none → Q (.ref p) (upd H p (.lst ((xs.mergeSort (PySem.W.dataLe false k)).map V.str)))) : wpAny (model X.prog X.w) X.A (call (.builtin "sorted") [.ref a] [(Str.ofString "key", kv)]) (EP X pins σ Q) X.xe s := by
  obtain ⟨its, rv, hl, hz⟩ := I.list hs
  have e := each_strs rv
  rw [List.length_map] at hz
  refine PySem.W.sorted_key_data (b := false) k hl.isList e ko.hal ko.hsb hz ko.hu (ksk_s1 _ _) (fun _ => ksk_l1 _ _) ko.ht ko.turn fun out c h' tk kp _ hD _ eo => ?_
  exact ⟨.ref _, upd H (s.heap.objs.size + 1) (.lst ((xs.mergeSort (PySem.W.dataLe false k)).map V.str)), I.laid (t' := tk) kp (Nat.le_succ _) ⟨by rw [List.length_map, List.length_mergeSort]; exact hz, out, c, strs_each eo, hD⟩, rfl, q _ (I.hok.fresh (Nat.le_succ _))⟩
theorem sortKeyD_run {pins : List (Addr × Obj)} {σ : St} {H : Hp} {s : Shared} {Q : VK} {kv : Value} {a : Addr} {kvs : List (Key × V)} {xs : List Str} {k : Str → PyData} (hcalm : X.calm = true) (I : Inv X pins σ H s) (hd : Rd H a (.dK kvs)) (hks : kvs.map (·.1) = xs.map Sum.inr) (ko : KeyOk X s kv k xs)
    (q : ∀ p, H p = none → Q (.ref p) (upd H p (.lst ((xs.mergeSort (PySem.W.dataLe false k)).map V.str)))) : wpAny (model X.prog X.w) X.A (call (.builtin "sorted") [.ref a] [(Str.ofString "key", kv)]) (EP X pins σ Q) X.xe s := by
  obtain ⟨z, lo, vs, rel, dd⟩ := dk_rd I.hok hd
  obtain ⟨ep, hat⟩ := dd.dictAt
  have hkeys : vs.map (·.1) = xs.map Sum.inr := rel.keys.symm.trans hks
  have hl : vs.length = xs.length := by
    have e := congrArg List.length hkeys
    rw [List.length_map, List.length_map] at e
    exact e
  have h16 : vs.length ≤ sizeLine := by
    have := rel.length
    omega
  refine call_function_entry_kw kind_sorted plain_sorted entry_sorted (ksk_s1 _ _) ?_
  unfold Builtin.«sorted»
  refine wpAny_bind (m := checkCount "sorted" 1 1 _) (wpAny_pure ?_)
  refine wpAny_bind (PySem.W.kdu_collect (A := X.A.in1) (PySem.W.kdl_dict (knd := mixKind X.prog X.w) (kvs := vs) (ep := ep) lo) (I.ok.hd hcalm) hat h16 fun h' tk acc hk hacc => ?_)
  have hal : acc.toList.length = xs.length := by rw [Array.length_toList, hacc.1, hl]
  have hS : StrsAre acc.toList xs := strs_at hal fun j v e => by
    obtain ⟨k, x, e1, e2⟩ := hacc.2 j v (by rw [← Array.getElem?_toList]; exact e)
    have e3 : (vs.map (·.1))[j]? = some k := by rw [List.getElem?_map, e1]; all_goals rfl
    rw [hkeys, List.getElem?_map] at e3
    cases e4 : xs[j]? with
    | none => rw [e4] at e3; cases e3
    | some y =>
      rw [e4] at e3
      have e5 : Sum.inr y = k := Option.some.inj e3
      subst e5
      obtain ⟨t, ev⟩ := Value.isStrOf_shape (x := y) (v := v) e2
      exact ⟨y, t, rfl, ev⟩
  have I1 : Inv X pins σ H { s with heap := h', toks := tk } := I.kept hk
  have eS : PySem.W.EachIs IsS acc.toList xs := each_strs (vals_of_strs hS)
  refine wpAny_bind (wpAny_newList ?_ (by rw [hal, ← hl]; exact h16))
  have hoL : (h'.push (seqObj "list" acc.toList.toArray 0)).get? h'.objs.size = some (seqObj "list" acc.toList.toArray 0) := Heap.get?_push_size _ rfl
  show wpAny _ _ _ _ _ { s with heap := h'.push (seqObj "list" acc.toList.toArray 0), toks := tk }
  have up : ∀ {g : Heap}, PySem.W.KeepsBut h'.objs.size (h'.push (seqObj "list" acc.toList.toArray 0)) g → ∀ b o, h'.get? b = some o → g.get? b = some o := fun {g} kp b o q =>
    kp b o (Nat.ne_of_lt (Heap.lt_size q)) (Heap.get?_push_of_some _ q)
  refine wpAny_bind (wpAny_holding (wpAny_call_entry_kw slot_list_sort ⟨_, hoL, rfl⟩ entry_list_sort ?_ (ksk_l1 _ _)))
  rw [ko.ht]
  refine PySem.W.keyH_tree (kz := xs.map k) (s := { s with heap := h'.push (seqObj "list" acc.toList.toArray 0), toks := tk }) hoL (by rw [List.length_map]; exact hal.symm) (by rw [hal, ← hl]; exact h16) ko.hal ko.hsb (PySem.W.bound_map (A := X.A.in1.in1) ko.hu)
    (PySem.W.keyH_turns (s := { s with heap := h'.push (seqObj "list" acc.toList.toArray 0), toks := tk }) eS fun v x hR hx g tk' kp => ko.turn v x hR hx g tk' fun b o q => up kp b o (hk b o q)) fun g tk' out c kp hD ke => ⟨_, rfl, ?_⟩
  have eo := PySem.W.keyedOut_each k ke eS
  refine wpAny_pure ⟨_, rfl, .ref h'.objs.size, upd H h'.objs.size (.lst ((xs.mergeSort (PySem.W.dataLe false k)).map V.str)), I1.laid (t' := tk') (fun b o q => up kp b o q) (Nat.le_refl _) ⟨by rw [List.length_map, List.length_mergeSort, ← hl]; exact h16, out, c, strs_each eo, hD⟩, rfl, q _ (I1.hok.fresh (Nat.le_refl _))⟩
end
section
variable {K : PySem.W.Frag} {F : Addr → Prop} {H : Hp}
/-- a dict whose keys are texts -/
theorem texts_of {a : Addr} {ps : List (D × V)} {kvs : List (D × D)} {ss : List (List Nat)} (v : DView H a ps) (r : RepP K F H ps kvs) (hs : dstrs (kvs.map (·.1)) = some ss) (hne : ss ≠ []) :
    ∃ kk : List (Key × V), Rd H a (.dK kk) ∧ kk.map (·.1) = (ss.map mkS).map Sum.inr := by
  have hk := r.keys1
  rw [← hk] at hs
  cases v with
  | k h =>
    rename_i kk
    refine ⟨kk, h, ?_⟩
    rw [List.map_map] at hs
    have go : ∀ (ks : List Key) (ss : List (List Nat)), dstrs (ks.map keyD) = some ss → ks = (ss.map mkS).map Sum.inr := by
      intro ks
      induction ks with
      | nil => intro ss h; cases h; rfl
      | cons k ks ih =>
        intro ss h
        cases k with
        | inl i => cases h
        | inr x =>
          rw [List.map_cons] at h
          simp only [keyD, dstrs, Option.map_eq_some_iff] at h
          obtain ⟨ms, h1, rfl⟩ := h
          rw [ih ms h1, List.map_cons, List.map_cons, mkS_unS]
    refine go _ ss ?_
    rw [← hs, List.map_map]
    rfl
  | t h =>
    rename_i kk
    cases kk with
    | nil => cases hs; exact (hne rfl).elim
    | cons p r => rw [List.map_cons, List.map_cons] at hs; cases hs
end
section
variable {clsV : Nat → Value} {X : Cx} {W : WX} {a b c e kx : Expr} {es : List Expr} {pos p kpos : Pos} {ma mb mc : Sem Opd} {t : TA}
/-- sorted(a, key=..) -/
theorem pe_sortKey {kv : Value} {r : List V → Hp → VK → Prop} (hg : Gl X "sorted") (hm : X.mg "sorted" = none)
    (hkv : ∀ (pins : List (Addr × Obj)) (s : Shared) (σ : St) (H : Hp) (Q : Value → Shared → Prop), Inv X pins σ H s → Q kv s → wpAny (model X.prog X.w) X.A (eval kx X.env) Q X.xe s)
    (run : ∀ (pins : List (Addr × Obj)) (s : Shared) (σ : St) (H : Hp) (vs : List V) (us : List Value) (Q : VK), Inv X pins σ H s → Vals vs us → r vs H Q → wpAny (model X.prog X.w) X.A (call (.builtin "sorted") us [(Str.ofString "key", kv)]) (EP X pins σ Q) X.xe s)
    (ha : PA X [a] t) (he : backTo pos (starEach [a] X.env) = (false, eval a X.env) :: backTo pos (starEach [] X.env) := by rfl) (hpl : (backTo pos (starEach [a] X.env)).any (·.1) = false := by rfl) :
    PE X (.Call (.Name "sorted" p) [a] [⟨some "key", kx, kpos⟩] pos) (tCB r t) := by
  refine ⟨fun pins s σ H Q I h => ?_⟩
  refine wpAny_Call_Name_kw (ld_blt (u := .builtin "sorted") I hg hm (by decide +kernel) ?_)
  refine PyProof.Rows.callWith_kw (thn (ha.run pos pins s σ H _ I h) fun us s1 ⟨vs, H1, I1, r1, q1⟩ => ?_) he hpl rfl rfl
  show wpAny _ _ (evalAll ((do let v ← eval kx X.env; standAt pos; pure v) :: [])) _ _ s1
  refine wpAny_evalAll_cons (wpAny_bind (hkv pins s1 σ H1 _ I1 (wpAny_bind (wpAny_standAt (wpAny_pure (wpAny_evalAll_nil ?_))))))
  exact run pins s1 σ H1 vs us Q I1 r1 q1
/-! key=len -/
def kLen (x : Str) : PyData := .int x.length
def rSortLen (X : Cx) : List V → Hp → VK → Prop := fun vs H Q => ∃ (a : Addr) (xs : List Str), vs = [V.ref a] ∧ SqL X.K H a (xs.map V.str) ∧ (∀ x ∈ xs, x.length ≤ sizeLine) ∧ ∀ p, H p = none → Q (.ref p) (upd H p (.lst ((xs.mergeSort (PySem.W.dataLe false kLen)).map V.str)))
theorem keyOk_len {s : Shared} {xs : List Str} (hu : X.A.units + 64 < cLine) (hx : ∀ x ∈ xs, x.length ≤ sizeLine) : KeyOk X s (.builtin "len") kLen xs where
  hal := PySem.W.AllAlike.of fun _ _ => by simp [kLen, PySem.W.alike]
  hsb := PySem.W.Sortable.others fun b => ⟨fun z => (by unfold kLen at z; cases z), fun xs z => (by unfold kLen at z; cases z)⟩
  hu := fun x _ => by
    show X.A.units + 2 + 0 < cLine
    omega
  ht := ksk_t4 "len"
  turn := fun v x hv hm h tk kp => by
    obtain ⟨t, rfl⟩ := hv
    refine len_str ?_ ⟨h, tk + 1 + 1, rfl, fun b o q => q, .int _ _⟩
    have := sz_fit
    have := hx x hm
    omega
theorem map_le {ss : List (List Nat)} {k : Str → PyData} {le : List Nat → List Nat → Bool} (h : ∀ a b, PySem.W.dataLe false k (mkS a) (mkS b) = le a b) :
    (((ss.map mkS).mergeSort (PySem.W.dataLe false k)).map V.str) = (ss.mergeSort le).map fun s => V.str (mkS s) := by
  rw [← List.map_mergeSort (s := PySem.W.dataLe false k) (r := le) (f := mkS) fun a _ b _ => (h a b).symm, List.map_map]
  rfl
theorem short_le {ss : List (List Nat)} (h : short ss = true) : ∀ x ∈ ss.map mkS, x.length ≤ sizeLine := fun x hx => by
  obtain ⟨s, hs, rfl⟩ := List.mem_map.mp hx
  unfold short at h
  rw [List.all_eq_true] at h
  have := h s hs
  rw [decide_eq_true_eq] at this
  rw [mkS_len, ← lim_eq]
  exact this
theorem le_len (a b : List Nat) : PySem.W.dataLe false kLen (mkS a) (mkS b) = leL a b := by
  have e : PySem.W.dataLe false kLen = fun a b : Str => decide ((a.length : Int) ≤ (b.length : Int)) := PySem.W.dataLe_int (β := Str) fun x => (x.length : Int)
  rw [e]
  show decide (((mkS a).length : Int) ≤ ((mkS b).length : Int)) = decide (a.length ≤ b.length)
  rw [mkS_len, mkS_len, Bool.eq_iff_iff, decide_eq_true_eq, decide_eq_true_eq]
  omega
theorem sortLen_k : BkOk X (rSortLen X) bSortLen := by
  intro F H own ρ σ Q vs ds c er rd hf k
  match ds, rd, hf with
  | [.lst xs], .cons r .nil, hf =>
    simp only [bSortLen, Option.bind_eq_some_iff, Option.ite_none_right_eq_some, Option.some.injEq] at hf
    obtain ⟨ss, hs, hsh, rfl⟩ := hf
    obtain ⟨a, us, rfl, ha, ra⟩ := r.lst
    obtain rfl := ra.dstrs hs
    refine ⟨a, ss.map mkS, rfl, by rw [List.map_map]; exact .inl ha, short_le hsh, fun p hp => ?_⟩
    rw [map_le le_len]
    exact k.lst er (repL_strs _) p hp
theorem e_sortLen {p2 : Pos} {m : Sem (List Opd)} (hu : X.A.units + 64 < cLine) (hg : Gl X "sorted") (hm : X.mg "sorted" = none) (hg2 : Gl X "len") (hm2 : X.mg "len" = none) (ha : EOs clsV W X [a] m)
    (he : backTo pos (starEach [a] X.env) = (false, eval a X.env) :: backTo pos (starEach [] X.env) := by rfl) (hpl : (backTo pos (starEach [a] X.env)).any (·.1) = false := by rfl) :
    EC clsV W X (.Call (.Name "sorted" p) [a] [⟨some "key", .Name "len" p2, kpos⟩] pos) (sB bSortLen m) :=
  PE.imp (pe_sortKey (kv := .builtin "len") (r := rSortLen X) hg hm (fun pins s σ H Q I q => ld_blt I hg2 hm2 boot_len q) (fun pins s σ H vs us Q I rv h => by
    obtain ⟨a, xs, rfl, hs, hx, q⟩ := h
    rw [Vals.ref1 rv]
    exact sortKey_run I hs (keyOk_len hu hx) q) ha he hpl) fun σ H Q h => wp_sB (r := rSortLen X) sortLen_k (fun _ _ q => q) h
/-! key=order_of -/
def kOrd (x : Str) : PyData := .tuple [.int x.length, .str x]
def rSortOrd (X : Cx) : List V → Hp → VK → Prop := fun vs H Q => ∃ (a : Addr) (xs : List Str), vs = [V.ref a] ∧ (SqL X.K H a (xs.map V.str) ∨ ∃ kvs : List (Key × V), Rd H a (.dK kvs) ∧ kvs.map (·.1) = xs.map Sum.inr) ∧ (∀ x ∈ xs, x.length ≤ sizeLine) ∧
  ∀ p, H p = none → Q (.ref p) (upd H p (.lst ((xs.mergeSort (PySem.W.dataLe false kOrd)).map V.str)))
/-- the def order_of -/
structure IsOrd (K : PySem.W.Frag) (mg : Str → Option Value) (st : Stmt) (f : Addr) (fd : FuncData) (N : List Str) : Prop where
  fn : Fun K "order_of" "order_of" st f fd
  sc : FnScope N ["word"] (defScope st)
  bi : Binds K fd ["word"] []
  body : ∃ c p1 p2 p3 p4 p5 p6, defBody st = [.Return (some (.Tuple [.Call (.Name "len" p1) [.Name "word" p2] [] p3, .Name "word" p4] c p5)) p6]
  first : N[0]? = some ("word" : Str)
  vis : Vis (defScope st) "word"
  len : (defScope st).names.lookup ("len" : Str) = some .globalImplicit
  mlen : mg "len" = none
theorem keyOk_ord {n : Nat} {st : Stmt} {f : Addr} {fd : FuncData} {N : List Str} {pins : List (Addr × Obj)} {σ : St} {H : Hp} {s : Shared} {xs : List Str} (O : IsOrd X.K X.mg st f fd N) (hr : Room (n + 2) X.A) (I : Inv X pins σ H s) (hx : ∀ x ∈ xs, x.length ≤ sizeLine) : KeyOk X s (.ref f) kOrd xs where
  hal := PySem.W.AllAlike.of fun _ _ => by simp [kOrd, PySem.W.alike, PySem.W.alikeAll]
  hsb := PySem.W.Sortable.tuples fun b => ⟨_, _, rfl⟩
  hu := fun x _ => by
    have h1 : (kOrd x).depth = 1 := by simp [kOrd, PyData.depth, PyData.depthAll]
    have := hr.units
    omega
  ht := fun x => ksk_t1 f x
  turn := fun v x hv hm h tk kp => by
    obtain ⟨t, rfl⟩ := hv
    obtain ⟨c, p1, p2, p3, p4, p5, p6, hb⟩ := O.body
    have I1 : Inv X pins σ H { s with heap := h, toks := tk } := I.kept kp
    exact ord_call O.fn O.sc O.bi ((hr.in1.in1).mono (by omega)) I1.env0.in1.in1 hb O.first O.vis O.len O.mlen (hx x hm)
theorem le_ord (a b : List Nat) : PySem.W.dataLe false kOrd (mkS a) (mkS b) = leO a b := by
  show (!PySem.W.dataLt (kOrd (mkS b)) (kOrd (mkS a))) = _
  unfold kOrd leO ltO
  rw [PySem.W.dataLt_pair (by simp [PySem.W.alike]) (by simp [PySem.W.alike]), PySem.W.dataLt_int, PySem.W.dataLt_str]
  have l1 := mkS_len a
  have l2 := mkS_len b
  by_cases h1 : b.length = a.length
  · have e1 : PyData.eqv (.int ((mkS b).length : Int)) (.int ((mkS a).length : Int)) = true := by
      rw [l1, l2, h1]
      exact beq_self_eq_true (a.length : Int)
    rw [if_pos e1]
    by_cases h2 : b = a
    · subst h2
      have e2 : PyData.eqv (.str (mkS b)) (.str (mkS b)) = true := beq_self_eq_true (mkS b)
      rw [if_pos e2]
      have : ¬ (b.length < b.length ∨ (b.length = b.length ∧ b < b)) := by
        rintro (z | ⟨_, z⟩)
        · omega
        · exact List.lt_irrefl b z
      rw [decide_eq_false this]
    · have e2 : ¬ PyData.eqv (.str (mkS b)) (.str (mkS a)) = true := fun z => h2 (mkS_inj (beq_iff_eq.mp (show (mkS b == mkS a) = true from z)))
      rw [if_neg e2]
      congr 1
      rw [Bool.eq_iff_iff, decide_eq_true_eq, decide_eq_true_eq]
      show b.toArray.toList < a.toArray.toList ↔ _
      rw [List.toList_toArray, List.toList_toArray]
      constructor
      · exact fun z => .inr ⟨h1, z⟩
      · rintro (z | ⟨_, z⟩)
        · omega
        · exact z
  · have e1 : ¬ PyData.eqv (.int ((mkS b).length : Int)) (.int ((mkS a).length : Int)) = true := by
      rw [l1, l2]
      exact fun z => h1 (by have := beq_iff_eq.mp (show ((b.length : Int) == (a.length : Int)) = true from z); omega)
    rw [if_neg e1, l1, l2]
    congr 1
    rw [Bool.eq_iff_iff, decide_eq_true_eq, decide_eq_true_eq]
    omega
theorem sortOrd_k : BkOk X (rSortOrd X) bSortOrd := by
  intro F H own ρ σ Q vs ds c er rd hf k
  match ds, rd, hf with
  | [.lst xs], .cons r .nil, hf =>
    simp only [bSortOrd, Option.bind_eq_some_iff, Option.ite_none_right_eq_some, Option.some.injEq] at hf
    obtain ⟨ss, hs, hsh, rfl⟩ := hf
    obtain ⟨a, us, rfl, ha, ra⟩ := r.lst
    obtain rfl := ra.dstrs hs
    refine ⟨a, ss.map mkS, rfl, .inl (by rw [List.map_map]; exact .inl ha), short_le hsh, fun p hp => ?_⟩
    rw [map_le le_ord]
    exact k.lst er (repL_strs _) p hp
  | [.dic kvs], .cons r .nil, hf =>
    simp only [bSortOrd, Option.bind_eq_some_iff, Option.ite_none_right_eq_some, Option.some.injEq] at hf
    obtain ⟨ss, hs, ⟨hne, hsh⟩, rfl⟩ := hf
    obtain ⟨a, ps, rfl, dv, rp⟩ := r.dic
    obtain ⟨kk, h1, h2⟩ := texts_of dv rp hs hne
    refine ⟨a, ss.map mkS, rfl, .inr ⟨kk, h1, h2⟩, short_le hsh, fun p hp => ?_⟩
    rw [map_le le_ord]
    exact k.lst er (repL_strs _) p hp
theorem e_sortOrd {n : Nat} {st : Stmt} {f : Addr} {fd : FuncData} {N : List Str} {p2 : Pos} {m : Sem (List Opd)} (O : IsOrd X.K X.mg st f fd N) (hr : Room (n + 2) X.A) (hc : X.calm = true) (hg : Gl X "sorted") (hm : X.mg "sorted" = none) (hg2 : Gl X "order_of") (hm2 : X.mg "order_of" = some (.ref f)) (ha : EOs clsV W X [a] m)
    (he : backTo pos (starEach [a] X.env) = (false, eval a X.env) :: backTo pos (starEach [] X.env) := by rfl) (hpl : (backTo pos (starEach [a] X.env)).any (·.1) = false := by rfl) :
    EC clsV W X (.Call (.Name "sorted" p) [a] [⟨some "key", .Name "order_of" p2, kpos⟩] pos) (sB bSortOrd m) :=
  PE.imp (pe_sortKey (kv := .ref f) (r := rSortOrd X) hg hm (fun pins s σ H Q I q => ld_glob I hg2 hm2 q) (fun pins s σ H vs us Q I rv h => by
    obtain ⟨a, xs, rfl, hs, hx, q⟩ := h
    rw [Vals.ref1 rv]
    rcases hs with hs | ⟨kvs, h1, h2⟩
    · exact sortKey_run I hs (keyOk_ord O hr I hx) q
    · exact sortKeyD_run hc I h1 h2 (keyOk_ord O hr I hx) q) ha he hpl) fun σ H Q h => wp_sB (r := rSortOrd X) sortOrd_k (fun _ _ q => q) h
/-! list(d) -/
theorem listK_k : BkOk X (fun xs H Q => ∃ (a : Addr) (kvs : List (Key × V)), xs = [V.ref a] ∧ Rd H a (.dK kvs) ∧ ∀ p, H p = none → Q (.ref p) (upd H p (.lst (kvs.map fun kv => kV kv.1)))) bListK := by
  intro F H own ρ σ Q vs ds c er rd hf k
  match ds, rd, hf with
  | [.dic kvs], .cons r .nil, hf =>
    simp only [bListK, Option.ite_none_right_eq_some, Option.some.injEq] at hf
    obtain ⟨⟨hne, hk1⟩, rfl⟩ := hf
    obtain ⟨a, ps, rfl, dv, rp⟩ := r.dic
    have hk := rp.keys1
    cases dv with
    | k h =>
      rename_i kk
      refine ⟨a, kk, rfl, h, fun p hp => ?_⟩
      rw [← hk] at k
      have e1 : ((kk.map fun p => (keyD p.1, p.2)).map (·.1)) = (kk.map (·.1)).map keyD := by rw [List.map_map, List.map_map]; rfl
      have e2 : (kk.map fun kv => kV kv.1) = (kk.map (·.1)).map kV := by rw [List.map_map]; rfl
      rw [e1] at k
      rw [e2]
      exact k.lst er repL_keys p hp
    | t h =>
      rename_i kk
      cases kk with
      | nil =>
        cases kvs with
        | nil => exact (hne rfl).elim
        | cons _ _ => cases rp
      | cons p r =>
        cases kvs with
        | nil => exact (hne rfl).elim
        | cons q qs =>
          rw [List.map_cons, List.map_cons, List.map_cons] at hk
          injection hk with h1 _
          rw [List.all_cons, ← h1] at hk1
          simp [key1] at hk1
theorem e_listK {m : Sem (List Opd)} (hc : X.calm = true) (hg : Gl X "list") (hm : X.mg "list" = none) (ha : EOs clsV W X [a] m) (he : starEach [a] X.env = (false, eval a X.env) :: starEach [] X.env := by rfl) :
    EC clsV W X (.Call (.Name "list" p) [a] [] pos) (sB bListK m) := e_bty (call_listD hc) listK_k hg hm (by decide +kernel) ha (by decide) (by decide) he rfl
/-! text * n -/
theorem rep_fold (x : Array Nat) : ∀ (n : Nat) (acc : Array Nat), ((List.replicate n x).foldl (· ++ ·) acc).toList = acc.toList ++ (List.replicate n x.toList).flatten
  | 0, acc => by simp
  | n + 1, acc => by
    rw [List.replicate_succ, List.foldl_cons, rep_fold x n, List.replicate_succ, List.flatten_cons, Array.toList_append, List.append_assoc]
theorem mul_rep (a : List Nat) (j : Int) (h0 : 0 ≤ j) : Txt.mul (mkS a) j = mkS (List.replicate j.toNat a).flatten := by
  apply unS_inj
  rw [unS_mkS]
  unfold Txt.mul
  by_cases h1 : j < 1
  · have : j = 0 := by omega
    subst this
    rw [if_pos (by decide)]
    rfl
  rw [if_neg h1]
  by_cases h2 : (j == 1 || (mkS a).length == 0) = true
  · rw [if_pos h2, unS_mkS]
    rw [Bool.or_eq_true, beq_iff_eq, beq_iff_eq, mkS_len] at h2
    rcases h2 with h2 | h2
    · subst h2
      show a = (List.replicate 1 a).flatten
      simp
    · have := List.length_eq_zero_iff.mp h2
      subst this
      symm
      rw [List.flatten_eq_nil_iff]
      intro l hl
      exact (List.mem_replicate.mp hl).2
  · rw [if_neg h2]
    show ((List.replicate j.toNat a.toArray).foldl (· ++ ·) #[]).toList = _
    rw [rep_fold]
    simp [unS_mkS]
def rMulS : R2 := fun x y H Q => ∃ (a : List Nat) (j : Int), x = .str (mkS a) ∧ y = .int j ∧ 0 ≤ j ∧ j < 2 ^ 10 ∧ a.length < 2 ^ 10 ∧ Q (.str (mkS (List.replicate j.toNat a).flatten)) H
theorem op_mulS : OpR X (binaryOp .Mult) rMulS := by
  intro pins s σ H x y v u Q I rx ry h
  obtain ⟨a, j, rfl, rfl, h0, h1, h2, q⟩ := h
  obtain ⟨t, rfl⟩ := rx
  obtain ⟨t', rfl⟩ := ry
  have hl := mkS_len a
  refine SB.mul (mulOk_of 1024 1024 (by omega) (by omega) (by omega) (by decide) (by decide)) fun t2 k => ?_
  rw [mul_rep a j h0]
  exact ⟨.str _, H, I.tok _, ⟨_, rfl⟩, q⟩
theorem mulS_k : OpOk X rMulS mulS := by
  intro F H own ρ σ Q v w d e c er r1 r2 hf k
  cases d <;> cases e <;> simp only [mulS, reduceCtorEq, Option.ite_none_right_eq_some, Option.some.injEq] at hf
  obtain ⟨⟨h0, h1, h2⟩, rfl⟩ := hf
  rw [r1.str, r2.int]
  exact ⟨_, _, rfl, rfl, h0, h1, h2, k.same er (.str _)⟩
theorem e_mulS (ha : EO clsV W X a ma) (hb : EO clsV W X b mb) : EC clsV W X (.BinOp a .Mult b pos) (s2 ma mb mulS) := e_bin op_mulS mulS_k ha hb
/-! pairs compared -/
def rLtP (K : PySem.W.Frag) : R2 := fun x y H Q => ∃ (a b : Addr) (i j : Int) (z z2 : List Nat), x = .ref a ∧ y = .ref b ∧ SqT K H a [.int i, .str (mkS z)] ∧ SqT K H b [.int j, .str (mkS z2)] ∧ Q (.bl (decide (i < j ∨ (i = j ∧ z < z2)))) H
theorem op_ltP (hu : X.A.units < cLine) : OpR X (compareOp .Lt) (rLtP X.K) := by
  intro pins s σ H x y v u Q I rx ry h
  obtain ⟨a, b, i, j, z, z2, rfl, rfl, ha, hb, q⟩ := h
  cases rx
  cases ry
  obtain ⟨its, r1, p1, _⟩ := I.tuple ha
  obtain ⟨its2, r2, p2, _⟩ := I.tuple hb
  obtain ⟨u1, u2, rfl, ⟨t1, rfl⟩, ⟨t2, rfl⟩⟩ := vals2 r1
  obtain ⟨w1, w2, rfl, ⟨t3, rfl⟩, ⟨t4, rfl⟩⟩ := vals2 r2
  have R := Ob.RcOp.tuples_lt (A := X.A) (s := s) (e := fun k => if k = 0 then i == j else mkS z == mkS z2) (r := fun k => if k = 0 then decide (i < j) else decide (z < z2)) p1 p2 hu (fun k h1 h2 => by
    match k, h1, h2 with
    | 0, _, _ => exact SeqAt.EqAt.int_int _ _ _ _
    | 1, _, _ => exact SeqAt.EqAt.str_str _ _ _ _) (fun k h1 h2 _ => by
    match k, h1, h2 with
    | 0, _, _ => exact Ob.RcOp.lt_int _ _ _ _
    | 1, _, _ => exact fun prog w E Q hq => lt_str hq)
  have e : (Ob.lexAt (fun k => if k = 0 then i == j else mkS z == mkS z2) (fun k => if k = 0 then decide (i < j) else decide (z < z2)) (decide (2 < 2)) 0 2) = decide (i < j ∨ (i = j ∧ z < z2)) := by
    rw [Ob.lexAt_succ]
    by_cases h1 : i = j
    · subst h1
      rw [if_pos (by simp), Ob.lexAt_succ]
      by_cases h2 : z = z2
      · subst h2
        rw [if_pos (by simp), Ob.lexAt_zero]
        have : ¬ (i < i ∨ (i = i ∧ z < z)) := by
          rintro (q | ⟨_, q⟩)
          · omega
          · exact List.lt_irrefl z q
        rw [decide_eq_false this]
        rfl
      · rw [if_neg (by simpa using h2)]
        rw [if_neg (by omega), Bool.eq_iff_iff, decide_eq_true_eq, decide_eq_true_eq]
        constructor
        · exact fun q => .inr ⟨rfl, q⟩
        · rintro (q | ⟨_, q⟩)
          · omega
          · exact q
    · rw [if_neg (by simpa using h1), if_pos rfl, Bool.eq_iff_iff, decide_eq_true_eq, decide_eq_true_eq]
      omega
  have R2 : Ob.RcOp .Lt X.A s (.ref a) (.ref b) (decide (i < j ∨ (i = j ∧ z < z2))) := by rw [← e]; exact R
  have z : wpAny (model X.prog X.w) X.A (compareOp .Lt (.ref a) (.ref b)) (EP X pins σ Q) X.xe s := R2 X.prog X.w X.xe (EP X pins σ Q) ⟨.bl _, H, I, rfl, q⟩
  exact z
theorem ltP_k : CkOk X (rLtP X.K) ltP := by
  intro F H own ρ σ Q v w d e c er r1 r2 hf k
  match d, e, r1, r2, hf with
  | .tup [.int i, .str z], .tup [.int j, .str z2], r1, r2, hf =>
    cases hf
    obtain ⟨a, us, rfl, ha, ra⟩ := r1.tup
    obtain ⟨b, ws, rfl, hb, rb⟩ := r2.tup
    cases ra with
    | cons a1 t1 =>
      cases a1
      cases t1 with
      | cons a2 t2 =>
        cases a2
        cases t2
        cases rb with
        | cons b1 t1 =>
          cases b1
          cases t1 with
          | cons b2 t2 =>
            cases b2
            cases t2
            exact ⟨a, b, i, j, z, z2, rfl, rfl, ha, hb, k H F own er Stp.refl⟩
theorem e_ltP (hu : X.A.units < cLine) (ha : EO clsV W X a ma) (hb : EO clsV W X b mb) (hm : behindInMarks .Lt b = false) : EC clsV W X (.Compare a [.Lt] [b] pos) (sBl (s2 ma mb ltP)) := e_cmp (op_ltP hu) ltP_k ha hb hm
theorem t_ltP (hu : X.A.units < cLine) (ha : EO clsV W X a ma) (hb : EO clsV W X b mb) (hm : behindInMarks .Lt b = false := by rfl) : ET clsV W X (.Compare a [.Lt] [b] pos) (s2 ma mb ltP) := e_cmpT (op_ltP hu) ltP_k ha hb hm
end
end DL
/-! DL over the model, 20: {k: v} with a tuple as its key, {}. -/
namespace DL
open PySem PySem.Spec PyProof.Rows L2
section
variable {X : Cx} {kx vx : Expr} {pos : Pos} {tk tv : TE}
def tDispT (tk tv : TE) : TE := fun σ H Q => ∀ p, H p = none → tk σ (upd H p (.dT [])) fun x H1 => tv σ H1 fun y H2 => ∃ (b : Addr) (k : List Key), x = .ref b ∧ H2 b = some (.tup (k.map kV)) ∧ H2 p = some (.dT []) ∧ Q (.ref p) (upd H2 p (.dT [(k, y)]))
theorem pe_dispT (hu : X.A.units + 1 < cLine) (hk : PE X kx tk) (hv : PE X vx tv) : PE X (.Dict [some kx] [vx] pos) (tDispT tk tv) := by
  refine ⟨fun pins s σ H Q I q => ?_⟩
  have hn := I.hok.fresh (Nat.le_refl s.heap.objs.size)
  have I1 := I.laid (a := s.heap.objs.size) (o := .dT []) (h' := s.heap.push { cls := .type "dict", data := .dict #[] }) (t' := s.toks) (fun _ _ q => Heap.get?_push_of_some _ q) (Nat.le_refl _) (dt_empty s.heap I.big)
  rw [arm_eval_Dict, zip_pairTrees [some kx] [vx] X.env pos rfl rfl, dictDisplay_pairs _ (by simp [pairTrees]) (by simp [pairTrees])]
  refine wpAny_bind (wpAny_standAt (wpAny_bind ?_))
  unfold subDict
  refine wpAny_bind (wpAny_alloc ?_)
  refine wpAny_bind (wpAny_holding ?_)
  rw [if_pos (by simp [pairTrees])]
  refine wpAny_bind (pairTrees_cons_walk (thn (hk.run pins _ σ _ _ I1 (q _ hn)) fun u s1 ⟨x, H1, I1, rx, q1⟩ => thn (hv.run pins s1 σ H1 _ I1 q1) fun w2 s2 ⟨y, H2, I2, ry, b, k, ex, eb, ep, q2⟩ => pairTrees_nil_walk ?_))
  subst ex
  cases rx
  refine wpAny_holding ?_
  obtain ⟨z, hd, xs, rel, dd⟩ := dt_of I2.hok ep
  cases rel
  rw [List.forIn_cons]
  refine wpAny_bind (wpAny_bind (wpAny_bind (wpAny_dictSet_heap (hsz := Nat.zero_le _) (knd := tupleKind (mixKind X.prog X.w)) (show X.A.units < cLine by omega) (key_of I2.hok eb) dd fun h' dd' hs => wpAny_pure ?_)))
  dsimp only
  rw [List.forIn_nil]
  refine wpAny_pure (wpAny_pure (wpAny_pure (wpAny_pure ⟨.ref s.heap.objs.size, upd H2 s.heap.objs.size (.dT [(k, y)]), ?_, rfl, q2⟩)))
  obtain ⟨q, es, ep2, hq, h2, h3, h4, _, h5⟩ := dd'
  refine d_write I2 (by rw [ep]; exact True.intro) hs ⟨q, hq⟩ ⟨by rw [sizeLine_eq]; simp, hd, _, ((show KT H2 [] [] from Paired.nil).put k eb ry).keeps fun c ys ec => ?_, q, es, ep2, hq, h2, h3, h4, h5⟩
  rw [upd_ne (ne_of ec ep (fun z => nomatch z))]
  exact ec
end
section
variable {clsV : Nat → Value} {X : Cx} {W : WX} {kx vx : Expr} {pos : Pos}
/-- a key that is a tuple -/
theorem tup_key {K : PySem.W.Frag} {F : Addr → Prop} {H : Hp} {v : V} {d : D} (r : RepD K F H v d) (h : keyT d = true) : ∃ (b : Addr) (k : List Key), v = .ref b ∧ H b = some (.tup (k.map kV)) ∧ d = .tup (k.map keyD) := by
  obtain ⟨ks, rfl⟩ := keyT_of h
  cases r with
  | tup s r =>
    have := r.keys
    subst this
    exact ⟨_, ks, rfl, s.2, rfl⟩
theorem e_dispT {mk mv : Sem D} (hu : X.A.units + 64 < cLine) (hk : ED clsV W X kx mk) (hv : ED clsV W X vx mv) : EC clsV W X (.Dict [some kx] [vx] pos) (sDispT mk mv) :=
  PE.imp (pe_dispT (by omega) hk hv) fun σ H Q ⟨ρ, F, own, er, hw⟩ p hp => by
    have e0 := er.new (u := .dT []) hp
    have s0 : Stp F H own F (upd H p (.dT [])) own := Stp.new er.fdom hp
    have pk := ParkG.new (u := .dT []) er hp trivial
    have key : tPairs (trsOf clsV X.K W [(mk, mv)]) σ (upd H p (.dT [])) fun ps H2 => ∃ x y, ps = [(x, y)] ∧ ∃ (b : Addr) (k : List Key), x = .ref b ∧ H2 b = some (.tup (k.map kV)) ∧ H2 p = some (.dT []) ∧ Q (.ref p) (upd H2 p (.dT [(k, y)])) := by
      refine pairs_of [(mk, mv)] e0 ?_
      unfold wpS sDispT bind' at hw
      unfold wpS
      cases em : sPairs [(mk, mv)] ρ with
      | bad => rw [em] at hw; exact hw
      | exc x ρ' => rw [em] at hw; exact fun c d F' H' own' e' s' => hw c d F' H' own' e' (s0.trans s')
      | ok ps ρ1 =>
        rw [em] at hw
        intro vs F1 H1 own1 e1 s1 r1
        have r1 : PPR X.K F1 H1 vs ps := r1
        have pk1 := pk.step s1
        unfold opt at hw
        dsimp only at hw
        cases hd : dispT ps with
        | none => rw [hd] at hw; exact hw.elim
        | some c =>
          rw [hd] at hw
          unfold dispT at hd
          split at hd
          · rename_i kd vd
            simp only [Option.ite_none_right_eq_some, Option.some.injEq] at hd
            obtain ⟨hkt, rfl⟩ := hd
            cases r1 with
            | cons ra rb t =>
              cases t
              obtain ⟨b, ks, rfl, eb, rfl⟩ := tup_key ra hkt
              obtain ⟨e2, s2, k2⟩ := pk1.put (u' := .dT [(ks, _)]) e1 (s0.trans s1) hp
              refine ⟨_, _, rfl, b, ks, rfl, eb, pk1.at_, hw _ F1 _ own1 e2 s2 ⟨p, rfl, hp, pk1.nf, pk1.no, .dt upd_same (.cons (rb.mono (fun _ z => z) k2) .nil)⟩⟩
          · cases hd
    refine tG.mono key fun x H1 h1 => tG.mono h1 fun y H2 ⟨x', y', e, h2⟩ => ?_
    cases e
    exact h2
theorem e_dict0 : EC clsV W X (.Dict [] [] pos) sDict0 :=
  PE.imp pe_dnewK fun σ H Q ⟨ρ, F, own, er, hw⟩ p hp => by
    have s0 : Stp F H own F (upd H p (.dK [])) own := Stp.new er.fdom hp
    have pk := ParkG.new (u := .dK []) er hp trivial
    exact hw (.ref p) F _ own (er.new hp) s0 ⟨p, rfl, hp, pk.nf, pk.no, .dk upd_same .nil⟩
end
end DL
/-! DL over the model, 21: dict comprehensions, d.get(k). -/
namespace DL
open PySem PySem.Spec PyProof.Rows L2
section
variable {K : PySem.W.Frag} {F F' F1 F2 : Addr → Prop} {H H' H1 H2 : Hp} {own own' own1 own2 : Ow} {ρ ρ1 ρ2 : Env} {σ : St}
theorem RepP.step {o1 o2 : Ow} {ps : List (D × V)} {qs : List (D × D)} (r : RepP K F H ps qs) (s : Stp F H o1 F1 H1 o2) : RepP K F1 H1 ps qs := r.mono s.mono s.rd
end
section
variable {clsV : Nat → Value} {K : PySem.W.Frag} {W : WX}
theorem dc_of {vs : List Nat} {t : Tgt} {it : Sem (List D)} {c : Sem Bool} {kx vx : Sem D} {σ : St} {H : Hp} {Q : VK} (sub : ∀ i ∈ names t, i ∈ vs) (h : tG clsV K W (relC K) (sDComp vs t it c kx vx) σ H Q) :
    tDc (tG clsV K W (relI K) it) (gS K t) (tG clsV K W0 relE c) (tG clsV K W0 (relD K) kx) (tG clsV K W0 (relD K) vx) vs σ H Q := by
  obtain ⟨ρ, F, own, er, h⟩ := h
  refine ⟨ρ, F, own, er, ?_⟩
  unfold wpS sDComp at h
  unfold wpS
  cases ei : it ρ with
  | bad => simp only [ei] at h
  | exc x ρ1 => simp only [ei] at h; exact h
  | ok ds ρ1 =>
    simp only [ei] at h
    intro J F1 H1 own1 e1 s1 r1 L hL
    have r1 : ItOk K F1 H1 J ds := r1
    by_cases hc : calmAt ρ1 vs = true
    · rw [if_pos hc] at h
      cases ex : compD vs t c kx vx ds [] ρ1 with
      | bad => simp only [ex] at h
      | exc x ρ2 => simp only [ex] at h
      | ok xs ρ2 =>
        simp only [ex] at h
        have pk0 : ParkG F1 (upd H1 L (.dK [])) own1 L (.dK []) := ParkG.new e1 hL trivial
        have lim := lim_eq
        refine ⟨fun i k H' => ∃ ρ' F' own' acc accD, ER K F' H' own' (DL.wipe ρ' vs) (L2.wipe σ vs) ∧ Stp F1 H1 own1 F' H' own' ∧ ParkG F' H' own' L (.dK acc) ∧ RepP K F' H' (acc.map fun p => (keyD p.1, p.2)) accD ∧ compD vs t c kx vx (ds.drop i) accD ρ' = .ok xs ρ2 ∧ i ≤ ds.length ∧ k = ds.length - i,
          ⟨_, ρ1, F1, own1, [], [], (e1.new hL).wipe hc, Stp.new e1.fdom hL, pk0, .nil, ex, Nat.zero_le _, rfl⟩, ?_⟩
        rintro i k H2 ⟨ρ3, F3, own3, acc, accD, e3, s3, p3, ra, ec, hi, rfl⟩
        by_cases hlt : i < ds.length
        · refine .inr ⟨r1.go i H2 hlt s3.rd, fun H' => ∃ ρ' F' own' acc accD, ER K F' H' own' (DL.wipe ρ' vs) (L2.wipe σ vs) ∧ Stp F1 H1 own1 F' H' own' ∧ ParkG F' H' own' L (.dK acc) ∧ RepP K F' H' (acc.map fun p => (keyD p.1, p.2)) accD ∧ compD vs t c kx vx (ds.drop (i + 1)) accD ρ' = .ok xs ρ2,
            fun H' ⟨ρ', F', own', a1, a2, z1, z2, z3, z4, z5⟩ => ⟨ds.length - (i + 1), by omega, ρ', F', own', a1, a2, z1, z2, z3, z4, z5, hlt, rfl⟩, fun x H' y => ?_⟩
          obtain ⟨F4, d, hd, e4, s4, rx⟩ := r1.yld i x H' e3 s3.mono s3.rd hlt y
          rw [List.drop_eq_getElem_cons hlt] at ec
          rw [List.getElem?_eq_getElem hlt] at hd
          cases hd
          unfold compD at ec
          cases hst : store t ds[i] (DL.wipe ρ3 vs) with
          | none => simp only [hst] at ec; cases ec
          | some ρ4 =>
            simp only [hst] at ec
            refine ⟨DL.wipe ρ3 vs, F4, own3, _, ρ4, e4, rx, hst, fun σ5 own5 e5 s5 els => ?_⟩
            have hw := wipe_else els sub
            refine ⟨hw, ρ4, F4, own5, e5, ?_⟩
            have st5 : Stp F1 H1 own1 F4 H' own5 := (s3.trans s4).trans s5
            have p5 := (p3.step s4).step s5
            have ra5 := (ra.step s4).step s5
            unfold wpS
            cases em : c ρ4 with
            | bad => simp only [em] at ec; cases ec
            | exc x ρ5 => simp only [em] at ec; cases ec
            | ok b ρ5 =>
              simp only [em] at ec
              intro b' F6 H6 own6 e6 s6 hb
              cases hb
              have st6 := st5.trans s6
              have p6 := p5.step s6
              have ra6 := ra5.step s6
              cases b with
              | false =>
                rw [if_neg Bool.false_ne_true]
                simp only at ec
                split at ec
                · rename_i hcm
                  refine ⟨ρ5, F6, own6, acc, accD, ?_, st6, p6, ra6, ec⟩
                  have := e6.wipe hcm
                  rwa [hw] at this
                · cases ec
              | true =>
                rw [if_pos rfl]
                simp only at ec
                refine ⟨ρ5, F6, own6, e6, ?_⟩
                unfold wpS
                cases ee : kx ρ5 with
                | bad => simp only [ee] at ec; cases ec
                | exc x ρ6 => simp only [ee] at ec; cases ec
                | ok kd ρ6 =>
                  simp only [ee] at ec
                  intro kv F7 H7 own7 e7 s7 rk
                  have rk : RepD K F7 H7 kv kd := rk
                  refine ⟨ρ6, F7, own7, e7, ?_⟩
                  unfold wpS
                  cases ev : vx ρ6 with
                  | bad => simp only [ev] at ec; cases ec
                  | exc x ρ7 => simp only [ev] at ec; cases ec
                  | ok yd ρ7 =>
                    simp only [ev] at ec
                    intro v F8 H8 own8 e8 s8 rv
                    have rv : RepD K F8 H8 v yd := rv
                    split at ec
                    · rename_i hcm
                      have p8 := (p6.step s7).step s8
                      have ra8 := (ra6.step s7).step s8
                      have hlen := ra8.length
                      rw [List.length_map] at hlen
                      obtain ⟨k, rfl⟩ := key1_of hcm.2.1
                      obtain rfl := rk.key
                      obtain ⟨e9, s9, k9⟩ := p8.put (u' := .dK (putK acc k v)) e8 ((st6.trans s7).trans s8) hL
                      refine ⟨acc, k, rfl, p8.at_, by omega, ρ7, F8, own8, putK acc k v, dput accD (keyD k) yd, ?_, s9, ⟨upd_same, trivial, p8.nf, p8.no⟩, (dput_ok (fun _ _ => keyD_inj) k rv ra8).mono (fun _ z => z) k9, ec⟩
                      have := e9.wipe hcm.2.2
                      rwa [hw] at this
                    · cases ec
        · rw [List.drop_of_length_le (by omega)] at ec
          cases ec
          refine .inl ⟨r1.stop i H2 (by omega) s3.rd, ?_⟩
          exact h (.ref L) F3 H2 own3 (e1.restore hc e3 s3) (s1.trans s3) ⟨L, rfl, s1.fresh hL, p3.nf, p3.no, .dk p3.at_ ra⟩
    · rw [if_neg hc] at h; exact h.elim
end
section
variable {clsV : Nat → Value} {X : Cx} {W : WX} {a b e tg iter kx vx : Expr} {ifs : List Expr} {pos : Pos} {scope : Scope} {own : List (Str × Nat)}
/-- {kx: vx for tg in iter if ..} -/
theorem e_dc {t : Tgt} {it : Sem (List D)} {c : Sem Bool} {mk mv : Sem D} (hc : X.calm = true) (hN : X.N.Nodup) (hi : EI clsV W X tg iter it) (ok : BlkOk X.N X.env.scope scope own) (sub : ∀ i ∈ names t, i ∈ own.map (·.2))
    (hg : ∀ (s : Shared) (H : Hp) (C : Addr) (cl : List (Str × Addr)) (fp : List Addr), PG (X.blk s H scope (compEnvC scope cl C X.env) fp) tg (gS X.K t)) (ht : ∀ (s : Shared) (H : Hp) (C : Addr) (cl : List (Str × Addr)) (fp : List Addr), PTs (X.blk s H scope (compEnvC scope cl C X.env) fp) ifs (tG clsV X.K W0 relE c))
    (hk : ∀ (s : Shared) (H : Hp) (C : Addr) (cl : List (Str × Addr)) (fp : List Addr), ED clsV W0 (X.blk s H scope (compEnvC scope cl C X.env) fp) kx mk)
    (he : ∀ (s : Shared) (H : Hp) (C : Addr) (cl : List (Str × Addr)) (fp : List Addr), ED clsV W0 (X.blk s H scope (compEnvC scope cl C X.env) fp) vx mv) (hs : ∀ x, foldedSetIterable iter X.env x = pure x := by intro _; rfl) :
    EC clsV W X (.DictComp kx vx [⟨tg, iter, ifs, 0⟩] scope pos) (sDComp (own.map (·.2)) t it c mk mv) :=
  PE.imp (pe_dc hc hN hi ok hg ht hk he hs) fun σ H Q h => dc_of sub h
/-! d.get(k) -/
theorem dget_of {K : PySem.W.Frag} {F : Addr → Prop} {H : Hp} {a : Addr} {ps : List (D × V)} {qs : List (D × D)} {v : V} {k : D} (dv : DView H a ps) (rp : RepP K F H ps qs) (rk : RepD K F H v k) (hne : qs ≠ []) (ok : askable qs k = true) : ∃ o, DGet H a v o ∧ OptR K F H o (dget qs k) := by
  unfold askable at ok
  rw [Bool.or_eq_true, Bool.and_eq_true, Bool.and_eq_true] at ok
  have hk := rp.keys1
  rcases ok with ⟨h1, h2⟩ | ⟨h1, h2⟩
  · obtain ⟨k, rfl⟩ := key1_of h1
    have ev := rk.key
    subst ev
    cases dv with
    | k e => exact ⟨_, .inl ⟨_, k, e, rfl, rfl⟩, rp.val (fun _ _ => keyD_inj) k⟩
    | @t kvs e =>
      cases kvs with
      | nil => rw [List.map_nil] at rp; cases rp; exact (hne rfl).elim
      | cons p kvs =>
        cases qs with
        | nil => cases rp
        | cons q qs =>
          rw [List.all_cons, Bool.and_eq_true] at h2
          rw [List.map_cons, List.map_cons, List.map_cons] at hk
          injection hk with hk1 _
          have z := h2.1
          rw [← show (D.tup (p.1.map keyD)) = q.1 from hk1, keyT_not_1] at z
          cases z
  · obtain ⟨b, ks, rfl, hb, rfl⟩ := tup_key rk h1
    cases dv with
    | t e => exact ⟨_, .inr ⟨_, ks, b, e, rfl, hb, rfl⟩, rp.val (g := fun ks => .tup (ks.map keyD)) (fun x y z => keyDs_inj (by injection z)) ks⟩
    | @k kvs e =>
      cases kvs with
      | nil => rw [List.map_nil] at rp; cases rp; exact (hne rfl).elim
      | cons p kvs =>
        cases qs with
        | nil => cases rp
        | cons q qs =>
          rw [List.all_cons, Bool.and_eq_true] at h2
          rw [List.map_cons, List.map_cons, List.map_cons] at hk
          injection hk with hk1 _
          have z := h2.1
          rw [← show keyD p.1 = q.1 from hk1, keyD_not_T] at z
          cases z
theorem DView.isD {H : Hp} {a : Addr} {ps : List (D × V)} (v : DView H a ps) : IsD H a := by
  cases v with
  | k h => exact .inl ⟨_, h⟩
  | t h => exact .inr ⟨_, h⟩
theorem e_get {i : Nat} {x : Str} {p q : Pos} {m : Sem D} (hu : X.A.units + 64 < cLine) (hN : X.N[i]? = some x) (hv : Vis X.env.scope x) (ha : ED clsV W X a m) (hm : M1 X (.Name x p) "get" q a pos) (hd : (x == ("__debug__" : Str)) = false := by decide) (hcd : (x == ("__classdict__" : Str)) = false := by decide) :
    EC clsV W X (.Call (.Attribute (.Name x p) "get" q) [a] [] pos) (sGet i m) :=
  PE.imp (pe_dget1 (by omega) (pe_var (i := i) hN hv hd hcd) ha hm) fun σ H Q h => by
    obtain ⟨ρ, F, own, v, d, er, hv, r, hg, h⟩ := oVar_rel h
    cases d <;> simp only [isDic, reduceCtorEq] at hg
    obtain ⟨b, ps, rfl, dv, rp⟩ := r.dic
    refine ⟨_, hv, b, rfl, dv.isD, tG.mono (wpS.bind (Rel1 := relD X.K) back_C er h) fun w H1 ⟨kd, ρ1, F1, own1, e1, s1, r1, h1⟩ => ?_⟩
    obtain ⟨d1, rd, h2⟩ := wpS.rdO (H1 := H1) (x := .slot i) (v := .ref b) e1 hv h1
    obtain ⟨c, hc, k⟩ := wpS.opt h2
    cases d1 <;> simp only [dGet, reduceCtorEq, Option.ite_none_right_eq_some, Option.some.injEq] at hc
    rename_i qs
    obtain ⟨⟨hne, hask⟩, rfl⟩ := hc
    obtain ⟨b', ps', eb, dv', rp'⟩ := rd.dic
    cases eb
    have r1' : RepD X.K F1 H1 w kd := r1
    obtain ⟨o, g, ro⟩ := dget_of dv' rp' r1' hne hask
    refine ⟨o, g, k (o.getD .non) F1 H1 own1 e1 Stp.refl ?_⟩
    cases o with
    | none =>
      cases hq : dget qs kd with
      | none => exact .non
      | some y => rw [hq] at ro; exact ro.elim
    | some z =>
      cases hq : dget qs kd with
      | none => rw [hq] at ro; exact ro.elim
      | some y => rw [hq] at ro; exact ro
end
end DL
/-! DL over the model, 22: dict(a list of pairs). -/
namespace DL
open PySem PySem.Spec PyProof.Rows L2
def mergeT (kvs more : List (List Key × V)) : List (List Key × V) := more.foldl (fun acc kv => putK acc kv.1 kv.2) kvs
theorem length_mergeT : ∀ (more kvs : List (List Key × V)), (mergeT kvs more).length ≤ kvs.length + more.length
  | [], kvs => by show kvs.length ≤ kvs.length + 0; omega
  | p :: r, kvs => by
    have h1 := length_mergeT r (putK kvs p.1 p.2)
    have h2 := length_putK kvs p.1 p.2
    show (mergeT (putK kvs p.1 p.2) r).length ≤ _
    rw [List.length_cons]; omega
/-- the pairs of a list, with their keys' places -/
abbrev PT (K : PySem.W.Frag) (H : Hp) (p : Addr) (kv : List Key × Addr × V) : Prop := SqT K H p [.ref kv.2.1, kv.2.2] ∧ H kv.2.1 = some (.tup (kv.1.map kV))
section
variable {X : Cx}
theorem pt_vals {pins : List (Addr × Obj)} {σ : St} {H : Hp} {s : Shared} (I : Inv X pins σ H s) : ∀ {ps : List Addr} {kvs : List (List Key × Addr × V)}, Paired (PT X.K H) ps kvs →
    ∃ xs : List (List Key × Addr × Value), xs.length = ps.length ∧ Paired (fun (kv : List Key × Addr × V) (x : List Key × Addr × Value) => kv.1 = x.1 ∧ kv.2.1 = x.2.1 ∧ H x.2.1 = some (.tup (x.1.map kV)) ∧ RelV kv.2.2 x.2.2) kvs xs ∧
      ∀ (j : Nat) (x : List Key × Addr × Value), xs[j]? = some x → ∃ b, ps[j]? = some b ∧ s.heap.IsTuple b #[.ref x.2.1, x.2.2] ∧ H x.2.1 = some (.tup (x.1.map kV))
  | _, _, .nil => ⟨[], rfl, .nil, fun j x e => by simp at e⟩
  | _, _, .cons (a := p) (b := kv) h t => by
    obtain ⟨xs, hl, rel, hp⟩ := pt_vals I t
    obtain ⟨its, rv, ht, _⟩ := I.tuple h.1
    obtain ⟨u, y, ei, ru, ry⟩ := vals2 rv
    subst ei
    cases ru
    refine ⟨(kv.1, kv.2.1, y) :: xs, by rw [List.length_cons, List.length_cons, hl], .cons ⟨rfl, rfl, h.2, ry⟩ rel, fun j x e => ?_⟩
    cases j with
    | zero =>
      have e' : (kv.1, kv.2.1, y) = x := Option.some.inj e
      subst e'
      exact ⟨p, rfl, ht, h.2⟩
    | succ j =>
      obtain ⟨b, e1, e2, e3⟩ := hp j x (by simpa using e)
      exact ⟨b, by simpa using e1, e2, e3⟩
theorem kt_merge {H : Hp} : ∀ {kvs : List (List Key × Addr × V)} {xs : List (List Key × Addr × Value)} {acc : List (List Key × V)} {accx : List (List Key × Addr × Value)},
    Paired (fun (kv : List Key × Addr × V) (x : List Key × Addr × Value) => kv.1 = x.1 ∧ kv.2.1 = x.2.1 ∧ H x.2.1 = some (.tup (x.1.map kV)) ∧ RelV kv.2.2 x.2.2) kvs xs → KT H acc accx →
    KT H (mergeT acc (kvs.map fun kv => (kv.1, kv.2.2))) (storedAllH accx xs)
  | _, _, _, _, .nil, r => r
  | _, _, acc, accx, .cons (a := kv) (b := x) h t, r => by
    obtain ⟨h1, h2, h3, h4⟩ := h
    have e : KT H (putK acc kv.1 kv.2.2) (storedH accx x.1 x.2.1 x.2.2) := by
      rw [h1]
      exact r.put x.1 h3 h4
    have z := kt_merge t e
    exact z
theorem refsL : ∀ {ps : List Addr} {us : List Value}, Vals (ps.map V.ref) us → us = ps.map Value.ref
  | [], us, r => by
    rw [List.map_nil] at r
    cases r
    rfl
  | p :: ps, us, r => by
    rw [List.map_cons] at r
    cases r with
    | cons h t =>
      cases h
      rw [List.map_cons, ← refsL t]
/-- dict(xs) of a list of pairs, the keys tuples -/
theorem cr_dictT (hc : X.calm = true) (hu : X.A.units + 64 < cLine) : CallR X (.type "dict") (fun xs H Q => ∃ (a : Addr) (ps : List Addr) (kvs : List (List Key × Addr × V)), xs = [.ref a] ∧ SqL X.K H a (ps.map V.ref) ∧ Paired (PT X.K H) ps kvs ∧
    ∀ p, H p = none → Q (.ref p) (upd H p (.dT (mergeT [] (kvs.map fun kv => (kv.1, kv.2.2)))))) := by
  intro pins s σ H xs us Q I r q
  obtain ⟨a, ps, kvs, ex, hq, hp, q⟩ := q
  subst ex
  rw [Vals.ref1 r]
  obtain ⟨its, rv, pl, hz⟩ := I.list hq
  have ei := refsL rv
  subst ei
  rw [List.length_map] at hz
  obtain ⟨xs, hl, rel, hx⟩ := pt_vals I hp
  obtain ⟨o, n, ho, hcl, hd, hdat⟩ := pl
  have P := PairArg.list (prog := X.prog) (w := X.w) a (ps.map Value.ref).toArray (fun j => ps.getD j 0) (xs.map fun x => (Value.ref x.2.1, x.2.2))
  have ok : PlainSeq "list" s.heap a (ps.map Value.ref).toArray ∧ PairItems s.heap (ps.map Value.ref).toArray (fun j => ps.getD j 0) (xs.map fun x => (Value.ref x.2.1, x.2.2)) := by
    refine ⟨⟨o, n, ho, hcl, hd, hdat⟩, by simp [hl], fun j k v e => ?_⟩
    rw [List.getElem?_map] at e
    obtain ⟨x, ex, e2⟩ := Option.map_eq_some_iff.mp e
    cases e2
    obtain ⟨b, e1, e3, _⟩ := hx j x ex
    refine ⟨by simp [e1, List.getD_eq_getElem?_getD], .inl ?_⟩
    show s.heap.IsTuple (ps.getD j 0) _
    rw [List.getD_eq_getElem?_getD, e1]
    exact e3
  refine PySem.call_dict_pairsH (knd := tupleKind (mixKind X.prog X.w)) (ps := xs) P (I.ok.hd hc) (show X.A.units + 1 + 1 < cLine by omega) ok ⟨by simp, fun i key v e => ?_⟩ (fun h' hk x hxm => ?_) (by rw [List.length_map, hl]; exact hz) fun h' tk hd' hk => ?_
  · have e : (xs.map fun x => (Value.ref x.2.1, x.2.2))[i]? = some (key, v) := e
    rw [List.getElem?_map] at e
    obtain ⟨x, ex, e2⟩ := Option.map_eq_some_iff.mp e
    cases e2
    exact ⟨x.1, x.2.1, ex, rfl⟩
  · obtain ⟨j, hj⟩ := List.getElem?_of_mem hxm
    obtain ⟨b, _, _, e3⟩ := hx j x hj
    obtain ⟨ob, its, nn, h1, h2, h3, h4⟩ := key_of I.hok e3
    have ne : x.2.1 ≠ s.heap.objs.size := Nat.ne_of_lt (Heap.lt_size h1)
    exact ⟨ob, its, nn, hk _ ob ne (by simp) h1, h2, h3, h4⟩
  · have hm : (s.heap.objs.size == sysModules) = false := beq_eq_false_iff_ne.mpr (Nat.ne_of_gt I.big)
    have hn : H s.heap.objs.size = none := I.hok.fresh (Nat.le_refl _)
    have hlen : (mergeT [] (kvs.map fun kv => (kv.1, kv.2.2))).length ≤ sizeLine := by
      refine Nat.le_trans (length_mergeT _ []) ?_
      rw [List.length_nil, Nat.zero_add, List.length_map, Paired.length rel, hl]
      exact hz
    obtain ⟨q', es, ep2, hq', h2, h3, h4, _, h5⟩ := hd'
    refine ⟨.ref s.heap.objs.size, upd H s.heap.objs.size (.dT (mergeT [] (kvs.map fun kv => (kv.1, kv.2.2)))), I.laid (t' := tk) (fun b o e => hk b o (by simp) e) (Nat.le_refl _) (show ObjOk X.prog X.w _ _ _ (.dT (mergeT [] (kvs.map fun kv => (kv.1, kv.2.2)))) from ⟨hlen, hm, storedAllH [] xs, (kt_merge rel (show KT H [] [] from .nil)).keeps fun c ys ec => ?_, q', es, ep2, hq', h2, h3, h4, h5⟩), rfl, q _ hn⟩
    rw [upd_ne (fun z => by rw [z, hn] at ec; cases ec)]
    exact ec
end
section
variable {K : PySem.W.Frag} {F : Addr → Prop} {H : Hp}
theorem pairs_k : ∀ {vs : List V} {xs : List D} {ps : List (D × D)}, RepL K F H vs xs → pairsD xs = some ps → (ps.all fun p => key1 p.1) = true →
    ∃ (as : List Addr) (kvs : List (Key × V)), vs = as.map V.ref ∧ Paired (fun p kv => SqT K H p [kV kv.1, kv.2]) as kvs ∧ RepP K F H (kvs.map fun p => (keyD p.1, p.2)) ps
  | _, _, _, .nil, h, _ => by cases h; exact ⟨[], [], rfl, .nil, .nil⟩
  | _, _, ps, .cons (v := v) (d := d) (vs := vs) (ds := ds) a t, h, hk => by
    match d, a, h with
    | .tup [x, y], a, h =>
      simp only [pairsD, Option.map_eq_some_iff] at h
      obtain ⟨qs, h1, rfl⟩ := h
      rw [List.all_cons, Bool.and_eq_true] at hk
      obtain ⟨as, kvs, rfl, pr, rp⟩ := pairs_k t h1 hk.2
      cases a with
      | tup s r =>
        cases r with
        | cons ra r2 =>
          cases r2 with
          | cons rb r3 =>
            cases r3
            obtain ⟨k, hkd⟩ := key1_of hk.1
            dsimp only at hkd
            subst hkd
            obtain rfl := ra.key
            exact ⟨_ :: as, (k, _) :: kvs, rfl, .cons s.sq pr, .cons rb rp⟩
theorem pairs_t : ∀ {vs : List V} {xs : List D} {ps : List (D × D)}, RepL K F H vs xs → pairsD xs = some ps → (ps.all fun p => keyT p.1) = true →
    ∃ (as : List Addr) (kvs : List (List Key × Addr × V)), vs = as.map V.ref ∧ Paired (PT K H) as kvs ∧ RepP K F H ((kvs.map fun kv => (kv.1, kv.2.2)).map fun p => (.tup (p.1.map keyD), p.2)) ps
  | _, _, _, .nil, h, _ => by cases h; exact ⟨[], [], rfl, .nil, .nil⟩
  | _, _, ps, .cons (v := v) (d := d) (vs := vs) (ds := ds) a t, h, hk => by
    match d, a, h with
    | .tup [x, y], a, h =>
      simp only [pairsD, Option.map_eq_some_iff] at h
      obtain ⟨qs, h1, rfl⟩ := h
      rw [List.all_cons, Bool.and_eq_true] at hk
      obtain ⟨as, kvs, rfl, pr, rp⟩ := pairs_t t h1 hk.2
      cases a with
      | tup s r =>
        cases r with
        | cons ra r2 =>
          cases r2 with
          | cons rb r3 =>
            cases r3
            obtain ⟨b, ks, rfl, eb, rfl⟩ := tup_key ra hk.1
            exact ⟨_ :: as, (ks, b, _) :: kvs, rfl, .cons ⟨s.sq, eb⟩ pr, .cons rb rp⟩
theorem RepP.mergeT : ∀ {kvs acc : List (List Key × V)} {ds da : List (D × D)}, RepP K F H (kvs.map fun p => (.tup (p.1.map keyD), p.2)) ds → RepP K F H (acc.map fun p => (.tup (p.1.map keyD), p.2)) da →
    RepP K F H ((DL.mergeT acc kvs).map fun p => (.tup (p.1.map keyD), p.2)) (ds.foldl (fun acc p => dput acc p.1 p.2) da)
  | [], _, _, _, r, ra => by rw [List.map_nil] at r; cases r; exact ra
  | p :: kvs, _, _, _, r, ra => by
    rw [List.map_cons] at r
    cases r with
    | cons rv t =>
      rw [List.foldl_cons]
      exact RepP.mergeT (acc := putK _ p.1 p.2) t (dput_ok (g := fun ks : List Key => .tup (ks.map keyD)) (fun x y z => keyDs_inj (by injection z)) p.1 rv ra)
end
section
variable {clsV : Nat → Value} {X : Cx} {W : WX} {a b c e : Expr} {es : List Expr} {pos p : Pos}
theorem dictP_k : BkOk X (fun xs H Q => (∃ (a : Addr) (ps : List Addr) (kvs : List (Key × V)), xs = [.ref a] ∧ SqL X.K H a (ps.map V.ref) ∧ Paired (fun p kv => SqT X.K H p [kV kv.1, kv.2]) ps kvs ∧ ∀ p, H p = none → Q (.ref p) (upd H p (.dK (mergeK [] kvs)))) ∨
    ∃ (a : Addr) (ps : List Addr) (kvs : List (List Key × Addr × V)), xs = [.ref a] ∧ SqL X.K H a (ps.map V.ref) ∧ Paired (PT X.K H) ps kvs ∧ ∀ p, H p = none → Q (.ref p) (upd H p (.dT (mergeT [] (kvs.map fun kv => (kv.1, kv.2.2)))))) bDictP := by
  intro F H own ρ σ Q vs ds c er rd hf k
  match ds, rd, hf with
  | [.lst xs], .cons r .nil, hf =>
    simp only [bDictP, Option.bind_eq_some_iff, Option.ite_none_right_eq_some, Option.some.injEq] at hf
    obtain ⟨ps, hps, hk, rfl⟩ := hf
    obtain ⟨a, us, rfl, ha, ra⟩ := r.lst
    by_cases hk1 : (ps.all fun p => key1 p.1) = true
    · obtain ⟨as, kvs, rfl, pr, rp⟩ := pairs_k ra hps hk1
      refine .inl ⟨a, as, kvs, rfl, .inl ha, pr, fun p hp => ?_⟩
      have ne := er.noFresh hp
      have kp := keepNew (u := .dK (mergeK [] kvs)) er hp
      exact k (.ref p) F _ own (er.new hp) (Stp.new er.fdom hp) ⟨p, rfl, hp, ne.1, ne.2, .dk upd_same ((RepP.merge rp .nil).mono (fun _ z => z) kp)⟩
    · obtain ⟨as, kvs, rfl, pr, rp⟩ := pairs_t ra hps (hk.resolve_right hk1)
      refine .inr ⟨a, as, kvs, rfl, .inl ha, pr, fun p hp => ?_⟩
      have ne := er.noFresh hp
      have kp := keepNew (u := .dT (mergeT [] (kvs.map fun kv => (kv.1, kv.2.2)))) er hp
      exact k (.ref p) F _ own (er.new hp) (Stp.new er.fdom hp) ⟨p, rfl, hp, ne.1, ne.2, .dt upd_same ((RepP.mergeT rp .nil).mono (fun _ z => z) kp)⟩
theorem e_dictP {m : Sem (List Opd)} (hc : X.calm = true) (hu : X.A.units + 64 < cLine) (hg : Gl X "dict") (hm : X.mg "dict" = none) (ha : EOs clsV W X [a] m) (he : starEach [a] X.env = (false, eval a X.env) :: starEach [] X.env := by rfl) :
    EC clsV W X (.Call (.Name "dict" p) [a] [] pos) (sB bDictP m) := e_bty ((call_dictP hc).or (cr_dictT hc hu)) dictP_k hg hm (by decide +kernel) ha (by decide) (by decide) he rfl
end
end DL
/-! DL over the model, 23: x = {k: v for ..}. -/
namespace DL
open PySem PySem.Spec PyProof.Rows L2
section
variable {X : Cx}
/-- a name for a new dict that a comprehension makes, on one line -/
theorem ps_dcName {j : Nat} {nm : Str} {np : Pos} {ke ve gt src : Expr} {cs : List Expr} {scp : Scope} {mine : List (Str × Nat)} {p0 p1 : Pos} {wi : TI} {g : TG} {tt : TT} {tk tv : TE} (calm : X.calm = true) (nd : X.N.Nodup) (hj : X.N[j]? = some nm)
    (loc : X.env.scope.names.lookup nm = some .local) (sw : swapsWith (.DictComp ke ve [⟨gt, src, cs, 0⟩] scp p0) (some (.Name nm np)) p1.line X.env = pure true) (hi : PI X gt src wi) (ok : BlkOk X.N X.env.scope scp mine)
    (hg : ∀ (s : Shared) (H : Hp) (C : Addr) (cl : List (Str × Addr)) (fp : List Addr), PG (X.blk s H scp (compEnvC scp cl C X.env) fp) gt g)
    (ht : ∀ (s : Shared) (H : Hp) (C : Addr) (cl : List (Str × Addr)) (fp : List Addr), PTs (X.blk s H scp (compEnvC scp cl C X.env) fp) cs tt)
    (hk : ∀ (s : Shared) (H : Hp) (C : Addr) (cl : List (Str × Addr)) (fp : List Addr), PE (X.blk s H scp (compEnvC scp cl C X.env) fp) ke tk)
    (he : ∀ (s : Shared) (H : Hp) (C : Addr) (cl : List (Str × Addr)) (fp : List Addr), PE (X.blk s H scp (compEnvC scp cl C X.env) fp) ve tv) (hs : ∀ x, foldedSetIterable src X.env x = pure x) :
    PS X (.Assign [.Name nm np] (.DictComp ke ve [⟨gt, src, cs, 0⟩] scp p0) p1) (tAsg (tDc wi g tt tk tv (mine.map (·.2))) (gName j)) := by
  refine ⟨fun pins st τ G En J wish => ?_⟩
  rw [exec_Assign_Name_used _ _ _ _ sw]
  refine wpAny_bind (wpAny_standAt (wpAny_bind ?_))
  have wish : tDc wi g tt tk tv (mine.map (·.2)) τ G fun x H1 => gName j x τ H1 En.nx := wish
  have fin := dc_core (Qf := fun _ s' => SP X pins En .next s') (pos' := firstIterPos [⟨gt, src, cs, 0⟩] p0) (pos := p0) (use := some (assign (.Name nm np) X.env)) calm nd J hi ok hg ht hk he hs wish fun dd C s' m H' J' q hn f => by
    obtain ⟨f0, f1, _, f3, f4, f5⟩ := f
    refine wpAny_assign_Name (store_ok2 (v := V.ref dd) J' nd hj (.inl loc) rfl (fun s2 J2 ⟨cell, sb, ha⟩ => ?_) (.inr loc))
    have apart : C ≠ cell := ha.elim (fun z => z ▸ f1) fun z e => f4 nm cell z e.symm
    exact ⟨m, hn.sameBut sb apart, fun h3 sb3 => ⟨_, H', J2.turned (t' := s2.toks) (fun b o ne e => (sb3.2 b ne).trans e) f0 f1 f3 f4 f5, q⟩⟩
  exact wpAny_bind (thn fin fun _ s' hq => wpAny_pure (wpAny_pure hq))
theorem swD_true {ke ve : Expr} {gs : List Comprehension} {scope : Scope} {pos py : Pos} {y : Str} {l : Nat} {env : PySem.Env} (hk : env.scope.kind = .function) (hy : env.scope.names.lookup y = some .local) (hl : (py.line == pos.line) = true)
    (ha : (scope.names.any fun (n, k) => n == y && (k == .local || k == .cell)) = false) : swapsWith (.DictComp ke ve gs scope pos) (some (.Name y py)) l env = pure true := by
  have h1 : env.blockKind = .function := by unfold Env.blockKind; rw [hk]; rfl
  have h2 : env.kindOf y = some .local := hy
  unfold swapsWith
  simp only [h1, h2, ha, Expr.pos, hl]
  rfl
end
section
variable {clsV : Nat → Value} {X : Cx} {W : WX} {a b e tg iter kx vx : Expr} {ifs : List Expr} {pos : Pos} {scope : Scope} {own : List (Str × Nat)}
theorem s_setDc {i : Nat} {y : Str} {py spos : Pos} {t : Tgt} {it : Sem (List D)} {c : Sem Bool} {mk mv : Sem D} (hc : X.calm = true) (hN : X.N.Nodup) (hy : X.N[i]? = some y) (hyl : X.env.scope.names.lookup y = some .local)
    (hsw : swapsWith (.DictComp kx vx [⟨tg, iter, ifs, 0⟩] scope pos) (some (.Name y py)) spos.line X.env = pure true) (hi : EI clsV W X tg iter it) (ok : BlkOk X.N X.env.scope scope own) (sub : ∀ i ∈ names t, i ∈ own.map (·.2))
    (hg : ∀ (s : Shared) (H : Hp) (C : Addr) (cl : List (Str × Addr)) (fp : List Addr), PG (X.blk s H scope (compEnvC scope cl C X.env) fp) tg (gS X.K t)) (ht : ∀ (s : Shared) (H : Hp) (C : Addr) (cl : List (Str × Addr)) (fp : List Addr), PTs (X.blk s H scope (compEnvC scope cl C X.env) fp) ifs (tG clsV X.K W0 relE c))
    (hk : ∀ (s : Shared) (H : Hp) (C : Addr) (cl : List (Str × Addr)) (fp : List Addr), ED clsV W0 (X.blk s H scope (compEnvC scope cl C X.env) fp) kx mk)
    (he : ∀ (s : Shared) (H : Hp) (C : Addr) (cl : List (Str × Addr)) (fp : List Addr), ED clsV W0 (X.blk s H scope (compEnvC scope cl C X.env) fp) vx mv) (hs : ∀ x, foldedSetIterable iter X.env x = pure x := by intro _; rfl) :
    SF clsV W X (.Assign [.Name y py] (.DictComp kx vx [⟨tg, iter, ifs, 0⟩] scope pos) spos) (sSet i (sDComp (own.map (·.2)) t it c mk mv)) :=
  PS.imp (ps_dcName hc hN hy hyl hsw hi ok hg ht hk he hs) fun D σ H ⟨ρ, F, o, er, h⟩ => dc_of sub (h.store er)
end
end DL
namespace K68
open DL

abbrev FUEL : Nat := 1000000000
/-- order_of: word -/
def fb0 (Γ : Ora) : Sem Flow := sRet (sTup (sCons (fz (sB bLen (oCons (oVar 0) (oNil)))) (sCons (fz (sVar 0)) (sNil))))
def fb1_0 (Γ : Ora) : Sem Flow := sIf (sCmp .eq (ov (sIdx (oVar 0) (oVar 3))) (oVar 1)) (sRet (sBin .add (oVar 3) (ov (sK (.int 1))))) (skip)
/-- behind_first: word, letter, at, k -/
def fb1 (Γ : Ora) : Sem Flow := seq (sFor (.name 3) (iRange2 (oVar 2) (ov (sB bLen (oCons (oVar 0) (oNil))))) (fb1_0 Γ)) (sRet (sK .non))
def fb2_0 (Γ : Ora) : Sem Flow := seq (sSet 10 (sTup (sCons (fz (sCall Γ 1 [] (sCons (fz (sVar 1)) (sCons (fz (sVar 9)) (sCons (fz (sVar 6)) (sNil)))))) (sCons (fz (sCall Γ 1 [] (sCons (fz (sVar 2)) (sCons (fz (sVar 9)) (sCons (fz (sVar 7)) (sNil)))))) (sNil))))) (seq (sIf (sCmp .ne (ov (sBl (sIsN (ov (sIdx (oVar 10) (ov (sK (.int 0)))))))) (ov (sBl (sIsN (ov (sIdx (oVar 10) (ov (sK (.int 1))))))))) (sRet (sBin .add (oVar 8) (oVar 9))) (skip)) (sIf (sAnd (sNotN (ov (sIdx (oVar 10) (ov (sK (.int 0)))))) (sCmp .nin (oVar 10) (oVar 4))) (seq (sSetItem 4 (fz (sVar 10)) (fz (sK (.bl true)))) (sDrop (sMut 3 append (fz (sBin .add (oVar 10) (ov (sTup (sCons (fz (sBin .add (oVar 8) (oVar 9))) (sNil))))))))) (skip)))
def fb2_1 (Γ : Ora) : Sem Flow := seq (sAsg (.tup [.name 6, .name 7, .name 8]) (fz (sIdx (oVar 3) (oVar 5)))) (seq (sFor (.name 9) (iSeq (fz (sVar 0))) (fb2_0 Γ)) (sAug 5 .add (ov (sK (.int 1)))))
def fb2_2 (Γ : Ora) : Sem Bool := sCmp .lt (oVar 5) (ov (sB bLen (oCons (oVar 3) (oNil))))
/-- apart_by: letters, one, other, queue, met, at, first, second, piece, letter, places -/
def fb2 (Γ : Ora) : Sem Flow := seq (sSet 3 (sLst (sCons (fz (sTup (sCons (fz (sK (.int 0))) (sCons (fz (sK (.int 0))) (sCons (fz (sK (.str []))) (sNil)))))) (sNil)))) (seq (sSet 4 (sDispT (fz (sTup (sCons (fz (sK (.int 0))) (sCons (fz (sK (.int 0))) (sNil))))) (fz (sK (.bl true))))) (seq (sSet 5 (sK (.int 0))) (seq (whileL (fb2_2 Γ) (fb2_1 Γ) FUEL) (sRet (sK .non)))))
/-- apart_up_to: letters, one, other, most, piece -/
def fb3 (Γ : Ora) : Sem Flow := seq (sSet 4 (sCall Γ 2 [] (sCons (fz (sVar 0)) (sCons (fz (sVar 1)) (sCons (fz (sVar 2)) (sNil)))))) (sRet (sIf (sOr (sIsN (oVar 4)) (sCmp .gt (ov (sB bLen (oCons (oVar 4) (oNil)))) (oVar 3))) (sK .non) (sVar 4)))
def fb4_0 (Γ : Ora) : Sem Flow := sIf (sCmp .lt (ov (sB bLen (oCons (oVar 4) (oNil)))) (oVar 1)) (sSetItem 2 (fz (sBin .add (oVar 4) (oVar 3))) (fz (sK (.bl true)))) (skip)
def fb4_1 (Γ : Ora) : Sem Flow := sFor (.name 4) (iSeq (fz (sB bListK (oCons (oVar 2) (oNil))))) (fb4_0 Γ)
/-- pieces_up_to: word, most, found, letter, piece -/
def fb4 (Γ : Ora) : Sem Flow := seq (sSet 2 (sDisp ((fz (sK (.str [])), fz (sK (.bl true))) :: []))) (seq (sFor (.name 3) (iSeq (fz (sVar 0))) (fb4_1 Γ)) (sRet (sB bSortOrd (oCons (oVar 2) (oNil)))))
def fb5_0 (Γ : Ora) : Sem D := fz (sVar 4)
def fb5_1 (Γ : Ora) : Sem D := fz (sK (.bl true))
def fb5_2 (Γ : Ora) : Sem Flow := sIf (sCmp .lt (ov (sB bLen (oCons (oVar 4) (oNil)))) (oVar 2)) (sSetItem 3 (fz (sBin .add (oVar 4) (oVar 1))) (fz (sK (.bl true)))) (skip)
/-- gone_on: pieces, letter, most, found, piece -/
def fb5 (Γ : Ora) : Sem Flow := seq (sSet 3 (sDComp [4] (.name 4) (iSeq (fz (sVar 0))) (sYes) (fb5_0 Γ) (fb5_1 Γ))) (seq (sFor (.name 4) (iSeq (fz (sVar 0))) (fb5_2 Γ)) (sRet (sB bTuple (oCons (ov (sB bSortOrd (oCons (oVar 3) (oNil)))) (oNil)))))
def fb6_0 (Γ : Ora) : Sem Flow := seq (sSet 6 (sCall Γ 5 [] (sCons (fz (sIdx (oVar 3) (oVar 4))) (sCons (fz (sVar 5)) (sCons (fz (sVar 1)) (sNil)))))) (sIf (sCmp .nin (oVar 6) (oVar 2)) (seq (sSetItem 2 (fz (sVar 6)) (fz (sBin .add (ov (sIdx (oVar 2) (ov (sIdx (oVar 3) (oVar 4))))) (oVar 5)))) (sDrop (sMut 3 append (fz (sVar 6))))) (skip))
def fb6_1 (Γ : Ora) : Sem Flow := seq (sFor (.name 5) (iSeq (fz (sVar 0))) (fb6_0 Γ)) (sAug 4 .add (ov (sK (.int 1))))
def fb6_2 (Γ : Ora) : Sem Bool := sCmp .lt (oVar 4) (ov (sB bLen (oCons (oVar 3) (oNil))))
def fb6_3 (Γ : Ora) : Sem D := fz (sIdx (oVar 2) (oVar 6))
/-- kinds_of: letters, most, found, queue, at, letter, pieces -/
def fb6 (Γ : Ora) : Sem Flow := seq (sSet 2 (sDispT (fz (sTup (sCons (fz (sK (.str []))) (sNil)))) (fz (sK (.str []))))) (seq (sSet 3 (sLst (sCons (fz (sTup (sCons (fz (sK (.str []))) (sNil)))) (sNil)))) (seq (sSet 4 (sK (.int 0))) (seq (whileL (fb6_2 Γ) (fb6_1 Γ) FUEL) (sRet (sComp [6] (.name 6) (iSeq (fz (sVar 3))) (sYes) (fb6_3 Γ))))))
def fb7_0 (Γ : Ora) : Sem Bool := sCmp .eq (ov (sB bTuple (oCons (ov (sCall Γ 4 [] (sCons (fz (sVar 4)) (sCons (fz (sVar 2)) (sNil))))) (oNil)))) (oVar 3)
def fb7_1 (Γ : Ora) : Sem D := fz (sVar 4)
/-- least_same: letters, word, most, due, one -/
def fb7 (Γ : Ora) : Sem Flow := seq (sSet 3 (sB bTuple (oCons (ov (sCall Γ 4 [] (sCons (fz (sVar 1)) (sCons (fz (sVar 2)) (sNil))))) (oNil)))) (sRet (sIdx (ov (sComp [4] (.name 4) (iSeq (fz (sCall Γ 6 [] (sCons (fz (sVar 0)) (sCons (fz (sVar 2)) (sNil)))))) (fb7_0 Γ) (fb7_1 Γ))) (ov (sK (.int 0)))))
def fb8_0 (Γ : Ora) : Sem Flow := sIf (sCmp .ge (oVar 3) (ov (sK (.int 1048576)))) (seq (sDrop (sMut 1 append (fz (sBin .mod (ov (sB bInt (oCons (oVar 3) (oNil)))) (ov (sK (.int 1048576))))))) (sSet 3 (sBin .fdiv (oVar 3) (ov (sK (.int 1048576)))))) (seq (sSet 4 (sBin .mod (ov (sB bInt (oCons (ov (sBin .add (ov (sBin .add (ov (sBin .add (ov (sBin .mul (oVar 4) (ov (sK (.int 48271))))) (ov (sBin .mul (ov (sK (.int 11))) (oVar 5))))) (ov (sK (.int 7))))) (oVar 3))) (oNil)))) (ov (sK (.int 2147483647))))) (sDrop (sMut 1 append (fz (sBin .mod (ov (sB bInt (oCons (ov (sBin .fdiv (ov (sBin .mul (oVar 4) (ov (sK (.int 2862933555777941757))))) (ov (sK (.int 1024))))) (oNil)))) (ov (sK (.int 1048576))))))))
def fb8_1 (Γ : Ora) : Sem Flow := seq (sSet 3 (sB bAbs (oCons (ov (sB bInt (oCons (oVar 2) (oNil)))) (oNil)))) (seq (sSet 4 (sBin .add (ov (sBin .mod (ov (sB bInt (oCons (oVar 2) (oNil)))) (ov (sK (.int 1000003))))) (ov (sK (.int 1))))) (sFor (.name 5) (iRange1 (ov (sK (.int 40)))) (fb8_0 Γ)))
/-- _law_draws: script, numbers, cell, rest, mixed, k -/
def fb8 (Γ : Ora) : Sem Flow := seq (sSet 1 (sLst (sNil))) (seq (sFor (.name 2) (iSeq (fz (sBin .add (ov (sB bList (oCons (ov (sSl (oVar 0) (sNoPart) (sPart (ov (sK (.int 8)))))) (oNil)))) (ov (sLst (sCons (fz (sK (.int 7))) (sNil))))))) (fb8_1 Γ)) (sRet (sDisp ((fz (sK (.str [110, 117, 109, 98, 101, 114, 115])), fz (sVar 1)) :: (fz (sK (.str [97, 116])), fz (sK (.int 0))) :: []))))
/-- _law_next: draws, bound, at -/
def fb9 (Γ : Ora) : Sem Flow := seq (sSet 2 (sB bInt (oCons (ov (sIdx (oVar 0) (ov (sK (.str [97, 116]))))) (oNil)))) (seq (sSetItem 0 (fz (sK (.str [97, 116]))) (fz (sBin .add (oVar 2) (ov (sK (.int 1)))))) (sRet (sBin .mod (ov (sB bInt (oCons (ov (sBin .add (ov (sIdx (ov (sIdx (oVar 0) (ov (sK (.str [110, 117, 109, 98, 101, 114, 115]))))) (ov (sBin .mod (oVar 2) (ov (sB bLen (oCons (ov (sIdx (oVar 0) (ov (sK (.str [110, 117, 109, 98, 101, 114, 115]))))) (oNil)))))))) (ov (sBin .mul (ov (sK (.int 31))) (ov (sBin .fdiv (oVar 2) (ov (sB bLen (oCons (ov (sIdx (oVar 0) (ov (sK (.str [110, 117, 109, 98, 101, 114, 115]))))) (oNil)))))))))) (oNil)))) (oVar 1))))
/-- _law_pick: draws, things -/
def fb10 (Γ : Ora) : Sem Flow := sRet (sIdx (oVar 1) (ov (sCall Γ 9 [0] (sCons (fz (sB bLen (oCons (oVar 1) (oNil)))) (sNil)))))
def fb11_0 (Γ : Ora) : Sem D := fz (sBin .add (oVar 6) (oVar 7))
def fb11_1 (Γ : Ora) : Sem Flow := sSet 5 (sBin .add (oVar 5) (ov (sComp [7] (.name 7) (iSeq (fz (sVar 0))) (sYes) (fb11_0 Γ))))
def fb11_2 (Γ : Ora) : Sem Flow := seq (sSet 5 (sLst (sNil))) (seq (sFor (.name 6) (iSeq (fz (sVar 3))) (fb11_1 Γ)) (seq (sSet 2 (sBin .add (oVar 2) (oVar 5))) (sSet 3 (sVar 5))))
/-- _law_words: letters, longest, found, last, turn, news, word, letter -/
def fb11 (Γ : Ora) : Sem Flow := seq (sSet 2 (sLst (sCons (fz (sK (.str []))) (sNil)))) (seq (sSet 3 (sLst (sCons (fz (sK (.str []))) (sNil)))) (seq (sFor (.name 4) (iRange1 (oVar 1)) (fb11_2 Γ)) (sRetVar 2)))
def fb12_0 (Γ : Ora) : Sem D := fz (sBin .add (oVar 3) (oVar 2))
def fb12_1 (Γ : Ora) : Sem Flow := sSet 1 (sBin .add (oVar 1) (ov (sComp [3] (.name 3) (iSeq (fz (sVar 1))) (sYes) (fb12_0 Γ))))
/-- _law_left: word, found, letter, one -/
def fb12 (Γ : Ora) : Sem Flow := seq (sSet 1 (sLst (sCons (fz (sK (.str []))) (sNil)))) (seq (sFor (.name 2) (iSeq (fz (sVar 0))) (fb12_1 Γ)) (sRet (sB bSortSet (oCons (oVar 1) (oNil)))))
def fb13_0 (Γ : Ora) : Sem Bool := sCmp .le (ov (sB bLen (oCons (oVar 2) (oNil)))) (oVar 1)
def fb13_1 (Γ : Ora) : Sem D := fz (sVar 2)
/-- _law_kind: word, most, piece -/
def fb13 (Γ : Ora) : Sem Flow := sRet (sB bTuple (oCons (ov (sComp [2] (.name 2) (iSeq (fz (sCall Γ 12 [] (sCons (fz (sVar 0)) (sNil))))) (fb13_0 Γ) (fb13_1 Γ))) (oNil)))
def fb14_0 (Γ : Ora) : Sem D := fz (sTup (sCons (fz (sCall Γ 13 [] (sCons (fz (sVar 7)) (sCons (fz (sVar 4)) (sNil))))) (sCons (fz (sVar 7)) (sNil))))
def fb14_1 (Γ : Ora) : Sem Flow := seq (sSet 9 (sCall Γ 13 [] (sCons (fz (sVar 7)) (sCons (fz (sVar 4)) (sNil))))) (seq (sIf (sCmp .nin (oVar 9) (oVar 8)) (sSetItem 8 (fz (sVar 9)) (fz (sVar 7))) (skip)) (sIf (sCmp .ne (ov (sGet 6 (fz (sVar 9)))) (ov (sIdx (oVar 8) (oVar 9)))) (sRet (sK (.bl false))) (skip)))
def fb14_2 (Γ : Ora) : Sem Bool := sCmp .le (ov (sB bLen (oCons (oVar 7) (oNil)))) (ov (sK (.int 4)))
def fb14_3 (Γ : Ora) : Sem D := fz (sVar 7)
def fb14_4 (Γ : Ora) : Sem Bool := sCmp .le (ov (sB bLen (oCons (ov (sIdx (oVar 8) (oVar 9))) (oNil)))) (ov (sK (.int 4)))
def fb14_5 (Γ : Ora) : Sem D := fz (sIdx (oVar 8) (oVar 9))
def fb14_6 (Γ : Ora) : Sem Flow := sIf (sCmp .nin (ov (sCall Γ 13 [] (sCons (fz (sBin .add (oVar 7) (oVar 10))) (sCons (fz (sVar 4)) (sNil))))) (oVar 6)) (sRet (sK (.bl false))) (skip)
def fb14_7 (Γ : Ora) : Sem Flow := sFor (.name 10) (iSeq (fz (sVar 3))) (fb14_6 Γ)
def fb14_8 (Γ : Ora) : Sem D := fz (sCall Γ 10 [1] (sCons (fz (sB bList (oCons (oVar 3) (oNil)))) (sNil)))
def fb14_9 (Γ : Ora) : Sem Flow := seq (sSet 7 (s1 (ov (sComp [12] (.name 12) (iRange1 (ov (sCall Γ 9 [1] (sCons (fz (sK (.int 8))) (sNil))))) (sYes) (fb14_8 Γ))) (bJoin1 []))) (seq (sSet 13 (sCall Γ 7 [] (sCons (fz (sVar 3)) (sCons (fz (sVar 7)) (sCons (fz (sVar 4)) (sNil)))))) (seq (sIf (sOr (sCmp .ne (oVar 13) (ov (sIdx (oVar 6) (ov (sCall Γ 13 [] (sCons (fz (sVar 7)) (sCons (fz (sVar 4)) (sNil)))))))) (sNotN (ov (sCall Γ 3 [] (sCons (fz (sVar 3)) (sCons (fz (sVar 7)) (sCons (fz (sVar 13)) (sCons (fz (sVar 4)) (sNil))))))))) (sRet (sK (.bl false))) (skip)) (seq (sSet 14 (sCall Γ 10 [1] (sCons (fz (sB bList (oCons (oVar 3) (oNil)))) (sNil)))) (sIf (sOr (sCmp .ne (ov (sCall Γ 4 [] (sCons (fz (sBin .add (oVar 7) (oVar 14))) (sCons (fz (sVar 4)) (sNil))))) (ov (sCall Γ 4 [] (sCons (fz (sBin .add (oVar 13) (oVar 14))) (sCons (fz (sVar 4)) (sNil)))))) (sCmp .ne (ov (sCall Γ 4 [] (sCons (fz (sBin .add (oVar 14) (oVar 7))) (sCons (fz (sVar 4)) (sNil))))) (ov (sCall Γ 4 [] (sCons (fz (sBin .add (oVar 14) (oVar 13))) (sCons (fz (sVar 4)) (sNil))))))) (sRet (sK (.bl false))) (skip)))))
def fb14_10 (Γ : Ora) : Sem Flow := seq (sAsg (.tup [.name 3, .name 4]) (fz (sCall Γ 10 [1] (sCons (fz (sLst (sCons (fz (sTup (sCons (fz (sK (.str [97]))) (sCons (fz (sK (.int 3))) (sNil))))) (sCons (fz (sTup (sCons (fz (sK (.str [97, 98]))) (sCons (fz (sK (.int 2))) (sNil))))) (sCons (fz (sTup (sCons (fz (sK (.str [97, 98]))) (sCons (fz (sK (.int 2))) (sNil))))) (sCons (fz (sTup (sCons (fz (sK (.str [97, 98]))) (sCons (fz (sK (.int 1))) (sNil))))) (sCons (fz (sTup (sCons (fz (sK (.str [97, 98, 99]))) (sCons (fz (sK (.int 1))) (sNil))))) (sCons (fz (sTup (sCons (fz (sK (.str [97, 98, 99]))) (sCons (fz (sK (.int 0))) (sNil))))) (sCons (fz (sTup (sCons (fz (sK (.str [97, 98]))) (sCons (fz (sK (.int 3))) (sNil))))) (sNil)))))))))) (sNil))))) (seq (sSet 5 (sCall Γ 6 [] (sCons (fz (sVar 3)) (sCons (fz (sVar 4)) (sNil))))) (seq (sIf (sOr (sCmp .ne (ov (sIdx (oVar 5) (ov (sK (.int 0))))) (ov (sK (.str [])))) (sCmp .ne (oVar 5) (ov (sB bSortLen (oCons (ov (sB bSorted (oCons (oVar 5) (oNil)))) (oNil)))))) (sRet (sK (.bl false))) (skip)) (seq (sSet 6 (sB bDictP (oCons (ov (sComp [7] (.name 7) (iSeq (fz (sVar 5))) (sYes) (fb14_0 Γ))) (oNil)))) (seq (sIf (sCmp .ne (ov (sB bLen (oCons (oVar 6) (oNil)))) (ov (sB bLen (oCons (oVar 5) (oNil))))) (sRet (sK (.bl false))) (skip)) (seq (sSet 8 (sDict0)) (seq (sFor (.name 7) (iSeq (fz (sCall Γ 11 [] (sCons (fz (sVar 3)) (sCons (fz (sIf (sCmp .lt (ov (sB bLen (oCons (oVar 3) (oNil)))) (ov (sK (.int 3)))) (sK (.int 5)) (sK (.int 4)))) (sNil)))))) (fb14_1 Γ)) (seq (sIf (sCmp .ne (ov (sComp [7] (.name 7) (iSeq (fz (sVar 5))) (fb14_2 Γ) (fb14_3 Γ))) (ov (sComp [9] (.name 9) (iSeq (fz (sVar 8))) (fb14_4 Γ) (fb14_5 Γ)))) (sRet (sK (.bl false))) (skip)) (seq (sFor (.name 7) (iSeq (fz (sSl (oVar 5) (sPart (ov (sK (.int (-3))))) (sNoPart)))) (fb14_7 Γ)) (sFor (.name 11) (iRange1 (ov (sK (.int 4)))) (fb14_9 Γ))))))))))
/-- law: script, draws, turn, letters, most, kinds, marks, word, due, mark, letter, again, k, told, more -/
def fb14 (Γ : Ora) : Sem Flow := seq (sSet 1 (sCall Γ 8 [] (sCons (fz (sVar 0)) (sNil)))) (seq (sFor (.name 2) (iRange1 (ov (sK (.int 2)))) (fb14_10 Γ)) (sRet (sK (.bl true))))
def fns : Nat → Option Fn
  | 0 => some ⟨1, 0, 1, fb0⟩
  | 1 => some ⟨3, 0, 4, fb1⟩
  | 2 => some ⟨3, 0, 11, fb2⟩
  | 3 => some ⟨4, 0, 5, fb3⟩
  | 4 => some ⟨2, 0, 5, fb4⟩
  | 5 => some ⟨3, 0, 5, fb5⟩
  | 6 => some ⟨2, 0, 7, fb6⟩
  | 7 => some ⟨3, 0, 5, fb7⟩
  | 8 => some ⟨1, 0, 6, fb8⟩
  | 9 => some ⟨2, 1, 3, fb9⟩
  | 10 => some ⟨2, 1, 2, fb10⟩
  | 11 => some ⟨2, 0, 8, fb11⟩
  | 12 => some ⟨1, 0, 4, fb12⟩
  | 13 => some ⟨2, 0, 3, fb13⟩
  | 14 => some ⟨1, 0, 15, fb14⟩
  | _ => none
end K68
/-! what every law over draws shares -/
namespace K68
open DL
theorem call_eq (n f : Nat) (cs : List Cell) (fn : Fn) (h : fns f = some fn) : callF fns (n + 1) f cs = fn.run (callF fns n) cs := by
  show (match fns f with | some fn => fn.run (callF fns n) cs | none => .bad) = _
  rw [h]
theorem atI_nat {α : Type} (xs : List α) (i : Int) (h0 : 0 ≤ i) (h1 : i < xs.length) : atI xs i = xs[i.toNat]? := by
  unfold atI ixN
  rw [if_pos h0, if_pos h1]
  rfl
/-- the state of the draws -/
def draws (dints : List Int) (at_ : Int) : D := .dic [(.str [110, 117, 109, 98, 101, 114, 115], .lst (dints.map D.int)), (.str [97, 116], .int at_)]
/-- _law_next -/
theorem c_next (n : Nat) (dints : List Int) (at_ bound : Int) (hl : dints ≠ []) (h0 : 0 ≤ at_) (hb : 0 < bound) (hlen : dints.length < 1000000) :
    ∃ r : Int, 0 ≤ r ∧ r < bound ∧ callF fns (n + 1) 9 [.io (draws dints at_), .fr (.int bound)] = .ok (.fr (.int r)) [draws dints (at_ + 1)] := by
  have hp : 0 < dints.length := List.length_pos_iff.mpr hl
  have hp' : (0 : Int) < dints.length := by omega
  have i0 : 0 ≤ at_ % (dints.length : Int) := Int.emod_nonneg _ (by omega)
  have i1 : at_ % (dints.length : Int) < dints.length := Int.emod_lt_of_pos _ hp'
  have hk : (at_ % (dints.length : Int)).toNat < dints.length := by omega
  have ha : atI (dints.map D.int) (at_ % (dints.length : Int)) = some (.int (dints[(at_ % (dints.length : Int)).toNat])) := by
    rw [atI_nat _ _ i0 (by simpa using i1), List.getElem?_map, List.getElem?_eq_getElem hk]
    rfl
  have hd : (0 : Int) < dints.length ∧ (dints.length : Int) < 1073741824 := ⟨hp', by omega⟩
  refine ⟨(dints[(at_ % (dints.length : Int)).toNat] + 31 * (at_ / (dints.length : Int))) % bound, Int.emod_nonneg _ (by omega), Int.emod_lt_of_pos _ hb, ?_⟩
  rw [call_eq n 9 _ _ rfl]
  simp [draws, Fn.run, fb9, seq, bind', sSet, sB, oCons, oNil, ov, sIdx, s2, oVar, Cell.dat, sK, pure', outD, opt, getO, rdO, rdOs, getOs, index, askable, key1, keyT, dget, bInt, putS, put, sSetItem, fz, sBin, binop, change, lent1, setItem, dput, redo, sRet, bLen, LIM, hp, ha, hd, hb, outs, outC]
/-- the invariant of a loop over data -/
theorem forL_inv {t : Tgt} {body : Sem Flow} (P : List D → Env → Prop) (Q : Env → Prop)
    (hs : ∀ d ds ρ, P (d :: ds) ρ → ∃ ρ1, store t d ρ = some ρ1 ∧ ∃ ρ2, body ρ1 = .ok .next ρ2 ∧ P ds ρ2) (he : ∀ ρ, P [] ρ → Q ρ) : ∀ (ds : List D) (ρ : Env), P ds ρ → ∃ ρ', forL t body ds ρ = .ok .next ρ' ∧ Q ρ'
  | [], ρ, h => ⟨ρ, rfl, he ρ h⟩
  | d :: ds, ρ, h => by
    obtain ⟨ρ1, h1, ρ2, h2, h3⟩ := hs d ds ρ h
    obtain ⟨ρ', h4, h5⟩ := forL_inv P Q hs he ds ρ2 h3
    refine ⟨ρ', ?_, h5⟩
    unfold forL bind' storeS
    rw [h1]
    dsimp only
    rw [h2]
    exact h4
/-- _law_draws: the inner loop's turn -/
theorem draws_turn (Γ : Ora) (c0 c2 : D) (dints : List Int) (r m k : Int) (hm : 0 ≤ m ∧ m < 2147483647) (hlen : dints.length < 1000000) :
    ∃ (x r' m' : Int), 0 ≤ m' ∧ m' < 2147483647 ∧ fb8_0 Γ [.fr c0, .ow (.lst (dints.map D.int)), .fr c2, .fr (.int r), .fr (.int m), .fr (.int k)] = .ok .next [.fr c0, .ow (.lst ((dints ++ [x]).map D.int)), .fr c2, .fr (.int r'), .fr (.int m'), .fr (.int k)] := by
  have hL : dints.length < 16777216 := by omega
  by_cases h : 1048576 ≤ r
  · refine ⟨r % 1048576, r / 1048576, m, hm.1, hm.2, ?_⟩
    have h' : ¬ r < 1048576 := by omega
    simp [fb8_0, sIf, sCmp, cmpop, h, h', seq, bind', sSet, sB, oCons, oNil, ov, s2, oVar, Cell.dat, sK, pure', outD, opt, getO, rdO, rdOs, getOs, bInt, putS, put, fz, sBin, binop, change, lent1, redo, LIM, sDrop, sMut, s1, isLst, append, hL]
  · refine ⟨(((m * 48271 + 11 * k + 7 + r) % 2147483647) * 2862933555777941757 / 1024) % 1048576, r, (m * 48271 + 11 * k + 7 + r) % 2147483647, Int.emod_nonneg _ (by omega), Int.emod_lt_of_pos _ (by omega), ?_⟩
    have h' : ¬ 1048576 ≤ r := h
    have b1 : 0 ≤ (m * 48271 + 11 * k + 7 + r) % 2147483647 := Int.emod_nonneg _ (by omega)
    have b2 : (m * 48271 + 11 * k + 7 + r) % 2147483647 < 2147483647 := Int.emod_lt_of_pos _ (by omega)
    simp [fb8_0, sIf, sCmp, cmpop, h', seq, bind', sSet, sB, oCons, oNil, ov, s2, oVar, Cell.dat, sK, pure', outD, opt, getO, rdO, rdOs, getOs, bInt, putS, put, fz, sBin, binop, change, lent1, redo, LIM, sDrop, sMut, s1, isLst, append, hL]
/-- the inner loop -/
theorem draws_inner (Γ : Ora) (c0 c2 : D) : ∀ (ks : List Int) (dints : List Int) (r m : Int) (c5 : Cell), 0 ≤ m ∧ m < 2147483647 → dints.length + ks.length < 1000000 → (c5 = .no ∨ ∃ k, c5 = .fr (.int k)) →
    ∃ (xs : List Int) (r' m' : Int) (c5' : Cell), xs.length = ks.length ∧ 0 ≤ m' ∧ m' < 2147483647 ∧ (c5' = .no ∨ ∃ k, c5' = .fr (.int k)) ∧
      forL (.name 5) (fb8_0 Γ) (ks.map D.int) [.fr c0, .ow (.lst (dints.map D.int)), .fr c2, .fr (.int r), .fr (.int m), c5] = .ok .next [.fr c0, .ow (.lst ((dints ++ xs).map D.int)), .fr c2, .fr (.int r'), .fr (.int m'), c5']
  | [], dints, r, m, c5, hm, _, h5 => ⟨[], r, m, c5, rfl, hm.1, hm.2, h5, by rw [List.append_nil]; rfl⟩
  | k :: ks, dints, r, m, c5, hm, hl, h5 => by
    rw [List.length_cons] at hl
    obtain ⟨x, r1, m1, a1, a2, h1⟩ := draws_turn Γ c0 c2 dints r m k hm (by omega)
    obtain ⟨xs, r2, m2, c, h2, h3, h4, h6, h7⟩ := draws_inner Γ c0 c2 ks (dints ++ [x]) r1 m1 (.fr (.int k)) ⟨a1, a2⟩ (by simp; omega) (.inr ⟨k, rfl⟩)
    refine ⟨x :: xs, r2, m2, c, by simp [h2], h3, h4, h6, ?_⟩
    have hst : storeS (.name 5) (.int k) [.fr c0, .ow (.lst (dints.map D.int)), .fr c2, .fr (.int r), .fr (.int m), c5] = .ok .next [.fr c0, .ow (.lst (dints.map D.int)), .fr c2, .fr (.int r), .fr (.int m), .fr (.int k)] := by
      rcases h5 with rfl | ⟨j, rfl⟩ <;> rfl
    rw [List.map_cons]
    unfold forL bind'
    rw [hst]
    dsimp only
    rw [h1]
    dsimp only
    rw [h7, List.append_assoc]
    rfl
theorem rng_map (lo : Int) (n : Nat) : rng lo n = ((List.range n).map fun k : Nat => lo + (k : Int)).map D.int := by
  unfold rng
  rw [List.map_map]
  rfl
/-- nothing yet, or a whole number -/
def NoInt (c : Cell) : Prop := c = .no ∨ ∃ k, c = .fr (.int k)
theorem draws_mid (Γ : Ora) (c0 : D) (dints : List Int) (cell : Int) (c3 c4 c5 : Cell) (h3 : NoInt c3) (h4 : NoInt c4) (h5 : NoInt c5) (hlen : dints.length < 900000) :
    ∃ (xs : List Int) (d3 d4 d5 : Cell), xs.length = 40 ∧ NoInt d3 ∧ NoInt d4 ∧ NoInt d5 ∧ fb8_1 Γ [.fr c0, .ow (.lst (dints.map D.int)), .fr (.int cell), c3, c4, c5] = .ok .next [.fr c0, .ow (.lst ((dints ++ xs).map D.int)), .fr (.int cell), d3, d4, d5] := by
  have b1 : 0 ≤ cell % 1000003 := Int.emod_nonneg _ (by omega)
  have b2 : cell % 1000003 < 1000003 := Int.emod_lt_of_pos _ (by omega)
  obtain ⟨xs, r', m', c5', q1, q2, q3, q4, q5⟩ := draws_inner Γ c0 (.int cell) ((List.range 40).map fun k : Nat => (0 : Int) + (k : Int)) dints (if cell < 0 then -cell else cell) (cell % 1000003 + 1) c5 ⟨by omega, by omega⟩ (by simp; omega) h5
  refine ⟨xs, .fr (.int r'), .fr (.int m'), c5', by simpa using q1, .inr ⟨_, rfl⟩, .inr ⟨_, rfl⟩, q4, ?_⟩
  rw [← rng_map] at q5
  have e3 : ∀ d, put 3 (.fr d) [.fr c0, .ow (.lst (dints.map D.int)), .fr (.int cell), c3, c4, c5] = some [.fr c0, .ow (.lst (dints.map D.int)), .fr (.int cell), .fr d, c4, c5] := fun d => by
    rcases h3 with rfl | ⟨j, rfl⟩ <;> rfl
  have e4 : ∀ d e, put 4 (.fr e) [.fr c0, .ow (.lst (dints.map D.int)), .fr (.int cell), .fr d, c4, c5] = some [.fr c0, .ow (.lst (dints.map D.int)), .fr (.int cell), .fr d, .fr e, c5] := fun d e => by
    rcases h4 with rfl | ⟨j, rfl⟩ <;> rfl
  simp [fb8_1, seq, bind', sSet, sB, oCons, oNil, ov, s2, oVar, Cell.dat, sK, pure', outD, opt, getO, rdO, rdOs, getOs, bInt, bAbs, putS, e3, e4, sBin, binop, sFor, iRange1, s1]
  rw [List.map_append] at q5
  exact q5
theorem draws_outer (Γ : Ora) (c0 : D) : ∀ (cells dints : List Int) (c2 c3 c4 c5 : Cell), NoInt c2 → NoInt c3 → NoInt c4 → NoInt c5 → dints.length + 40 * cells.length < 900000 →
    ∃ (xs : List Int) (d2 d3 d4 d5 : Cell), xs.length = 40 * cells.length ∧ forL (.name 2) (fb8_1 Γ) (cells.map D.int) [.fr c0, .ow (.lst (dints.map D.int)), c2, c3, c4, c5] = .ok .next [.fr c0, .ow (.lst ((dints ++ xs).map D.int)), d2, d3, d4, d5]
  | [], dints, c2, c3, c4, c5, _, _, _, _, _ => ⟨[], c2, c3, c4, c5, rfl, by rw [List.append_nil]; rfl⟩
  | k :: ks, dints, c2, c3, c4, c5, h2, h3, h4, h5, hl => by
    rw [List.length_cons] at hl
    obtain ⟨xs, d3, d4, d5, q1, q3, q4, q5, q6⟩ := draws_mid Γ c0 dints k c3 c4 c5 h3 h4 h5 (by omega)
    obtain ⟨ys, f2, f3, f4, f5, g1, g2⟩ := draws_outer Γ c0 ks (dints ++ xs) (.fr (.int k)) d3 d4 d5 (.inr ⟨k, rfl⟩) q3 q4 q5 (by simp [q1]; omega)
    refine ⟨xs ++ ys, f2, f3, f4, f5, by simp [q1, g1]; omega, ?_⟩
    have hst : storeS (.name 2) (.int k) [.fr c0, .ow (.lst (dints.map D.int)), c2, c3, c4, c5] = .ok .next [.fr c0, .ow (.lst (dints.map D.int)), .fr (.int k), c3, c4, c5] := by
      rcases h2 with rfl | ⟨j, rfl⟩ <;> rfl
    rw [List.map_cons]
    unfold forL bind'
    rw [hst]
    dsimp only
    rw [q6]
    dsimp only
    rw [g2, List.append_assoc]
/-- _law_draws -/
theorem c_draws (n : Nat) (ns : List Int) : ∃ dints : List Int, dints ≠ [] ∧ dints.length < 1000000 ∧ callF fns (n + 1) 8 [.fr (.klst (ns.map D.int))] = .ok (.ow (draws dints 0)) [] := by
  have hc : (cut (List.map D.int ns) none (some 8)) ++ [D.int 7] = (ns.take (min 8 ns.length) ++ [7]).map D.int := by
    simp [cut, sIx, List.map_take]
  have hcl : (cut (List.map D.int ns) none (some 8)).length ≤ 16777215 := by
    simp [cut, sIx]
    try omega
  obtain ⟨xs, d2, d3, d4, d5, q1, q2⟩ := draws_outer (callF fns n) (.klst (ns.map D.int)) (ns.take (min 8 ns.length) ++ [7]) [] .no .no .no .no (.inl rfl) (.inl rfl) (.inl rfl) (.inl rfl) (by simp; omega)
  refine ⟨xs, fun z => ?_, ?_, ?_⟩
  · rw [z] at q1; simp at q1
  · rw [q1]; simp; omega
  · rw [← hc] at q2
    rw [call_eq n 8 _ _ rfl]
    simp only [List.map_nil, List.nil_append] at q2
    simp [Fn.run, fb8, seq, bind', sSet, sB, oCons, oNil, ov, oVar, Cell.dat, sK, pure', outD, opt, getO, rdO, rdOs, getOs, putS, put, fz, sBin, s2, binop, sRet, LIM, outs, outC, sLst, sNil, sCons, sFor, iSeq, sSl, slice, sNoPart, sPart, s1, bList, items, hcl, q2]
    simp [sDisp, sPairs, bind', fz, sK, opt, outD, sVar, pure', disp, key1, dput, draws, outC, outs]
/-- what a draw needs -/
structure Ok (dints : List Int) (a : Int) : Prop where
  ne : dints ≠ []
  few : dints.length < 1000000
  a0 : 0 ≤ a
theorem Ok.up {dints : List Int} {a : Int} (h : Ok dints a) : Ok dints (a + 1) := ⟨h.ne, h.few, by have := h.a0; omega⟩
/-- _law_pick -/
theorem c_pick (n : Nat) (dints : List Int) (a : Int) (h : Ok dints a) (xs : List D) (hx : xs ≠ []) :
    ∃ d, d ∈ xs ∧ callF fns (n + 2) 10 [.io (draws dints a), .fr (.lst xs)] = .ok (.fr d) [draws dints (a + 1)] := by
  have hp : 0 < xs.length := List.length_pos_iff.mpr hx
  obtain ⟨r, r0, r1, hr⟩ := c_next n dints a xs.length h.ne h.a0 (by omega) h.few
  have hk : r.toNat < xs.length := by omega
  have ha : atI xs r = some xs[r.toNat] := by rw [atI_nat _ _ r0 r1, List.getElem?_eq_getElem hk]
  refine ⟨xs[r.toNat], List.getElem_mem _, ?_⟩
  rw [call_eq (n + 1) 10 _ _ rfl]
  simp [Fn.run, fb10, sRet, bind', sIdx, s2, oVar, Cell.dat, ov, sCall, lentOk, lent, lent1, sB, oCons, oNil, sCons, sNil, fz, rdOs, getOs, getO, rdO, bLen, opt, outD, pure', sCall1, hr, back, redo, index, ha, outs, outC]
theorem compL_map {i : Nat} {elt : Sem D} {g : D → D} {ρ : Env} (hi : i < ρ.length) : ∀ (ds acc : List D) (c : Cell), (c = .no ∨ ∃ d, c = .fr d) → acc.length + ds.length ≤ LIM → (∀ d ∈ ds, elt (ρ.set i (.fr d)) = .ok (g d) (ρ.set i (.fr d))) →
    ∃ c', compL [i] (.name i) sYes elt ds acc (ρ.set i c) = .ok (acc ++ ds.map g) (ρ.set i c')
  | [], acc, c, _, _, _ => ⟨c, by rw [List.map_nil, List.append_nil]; rfl⟩
  | d :: ds, acc, c, hc, hl, he => by
    rw [List.length_cons] at hl
    have h1 : store (.name i) d (DL.wipe (ρ.set i c) [i]) = some (ρ.set i (.fr d)) := by
      simp [store, put, DL.wipe, List.getElem?_set_self, hi]
    have h2 : calmAt (ρ.set i (.fr d)) [i] = true := by
      simp [calmAt, List.getElem?_set_self, hi]
    obtain ⟨c', h3⟩ := compL_map hi ds (acc ++ [g d]) (.fr d) (.inr ⟨d, rfl⟩) (by simp; omega) fun e he' => he e (List.mem_cons_of_mem _ he')
    refine ⟨c', ?_⟩
    unfold compL
    rw [h1]
    simp only [sYes]
    rw [he d List.mem_cons_self]
    have h4 : acc.length < LIM ∧ calmAt (ρ.set i (.fr d)) [i] = true := ⟨by omega, h2⟩
    simp only [h4, and_self, if_true]
    rw [h3, List.map_cons, List.append_assoc]
    rfl
/-- a comprehension over one name -/
theorem comp_map {i : Nat} {it : Sem (List D)} {elt : Sem D} {g : D → D} {ρ ρ1 : Env} {ds : List D} {c : Cell} (hit : it ρ = .ok ds ρ1) (h0 : ρ1[i]? = some c) (hc : c = .no ∨ ∃ d, c = .fr d) (hl : ds.length ≤ LIM) (he : ∀ d ∈ ds, elt (ρ1.set i (.fr d)) = .ok (g d) (ρ1.set i (.fr d))) :
    sComp [i] (.name i) it sYes elt ρ = .ok (.ow (.lst (ds.map g))) ρ1 := by
  have hi : i < ρ1.length := (List.getElem?_eq_some_iff.mp h0).1
  have hs : ρ1.set i c = ρ1 := by
    apply List.ext_getElem?
    intro j
    by_cases e : i = j
    · subst e; rw [List.getElem?_set_self hi, h0]
    · rw [List.getElem?_set_ne e]
  obtain ⟨c', h⟩ := compL_map hi ds [] c hc (by simpa using hl) he
  rw [hs, List.nil_append] at h
  have hcm : calmAt ρ1 [i] = true := by
    rcases hc with rfl | ⟨d, rfl⟩ <;> simp [calmAt, h0]
  unfold sComp
  simp only [hit, hcm, if_true, h]
  have : DL.restore ρ1 (ρ1.set i c') [i] = ρ1 := by
    simp [DL.restore, h0, List.set_set, hs]
  rw [this]
theorem forL_next {t : Tgt} {body : Sem Flow} {d : D} {ds : List D} {ρ ρ1 ρ2 : Env} (h1 : storeS t d ρ = .ok .next ρ1) (h2 : body ρ1 = .ok .next ρ2) : forL t body (d :: ds) ρ = forL t body ds ρ2 := by
  unfold forL bind'
  rw [h1]
  dsimp only
  rw [h2]
  cases ds <;> rfl
theorem forL_ret {t : Tgt} {body : Sem Flow} {d : D} {ds : List D} {ρ ρ1 ρ2 : Env} {c : Cell} (h1 : storeS t d ρ = .ok .next ρ1) (h2 : body ρ1 = .ok (.ret c) ρ2) : forL t body (d :: ds) ρ = .ok (.ret c) ρ2 := by
  unfold forL bind'
  rw [h1]
  dsimp only
  rw [h2]
  rfl
theorem ints_map {g : D → Int} : ∀ ds : List D, dints (ds.map fun d => D.int (g d)) = some (ds.map g)
  | [] => rfl
  | d :: ds => by rw [List.map_cons, dints, ints_map ds]; rfl
theorem bools_map {g : D → Bool} : ∀ ds : List D, bools (ds.map fun d => D.bl (g d)) = some (ds.map g)
  | [] => rfl
  | d :: ds => by rw [List.map_cons, bools, bools_map ds]; rfl
def NoD (c : Cell) : Prop := c = .no ∨ ∃ d, c = .fr d
/-- a comprehension whose parts draw: F a c is the frame with a draws made and c in the name's place -/
theorem compL_draw {i : Nat} {cond : Sem Bool} {elt : Sem D} {F : Int → Cell → Env} {G : Int → Prop} {Px : D → Prop} (hF : ∀ a c, (F a c)[i]? = some c) (hS : ∀ a c c', (F a c).set i c' = F a c') :
    ∀ (ds acc : List D) (a : Int) (c : Cell), G a → NoD c → acc.length + ds.length ≤ LIM →
      (∀ d ∈ ds, ∀ a, G a → (∃ a' x, G a' ∧ Px x ∧ ∃ a1, cond (F a (.fr d)) = .ok true (F a1 (.fr d)) ∧ elt (F a1 (.fr d)) = .ok x (F a' (.fr d))) ∨ ∃ a', G a' ∧ cond (F a (.fr d)) = .ok false (F a' (.fr d))) →
      ∃ xs a' c', G a' ∧ NoD c' ∧ (xs.length ≤ ds.length ∧ (cond = sYes → xs.length = ds.length)) ∧ (∀ x ∈ xs, Px x) ∧ compL [i] (.name i) cond elt ds acc (F a c) = .ok (acc ++ xs) (F a' c')
  | [], acc, a, c, ha, hc, _, _ => ⟨[], a, c, ha, hc, ⟨Nat.le_refl _, fun _ => rfl⟩, by simp, by rw [List.append_nil]; rfl⟩
  | d :: ds, acc, a, c, ha, hc, hl, he => by
    rw [List.length_cons] at hl
    have hw : DL.wipe (F a c) [i] = F a .no := hS a c .no
    have h1 : store (.name i) d (DL.wipe (F a c) [i]) = some (F a (.fr d)) := by
      rw [hw]
      show put i (.fr d) (F a .no) = _
      unfold put
      rw [hF]
      show some ((F a .no).set i (.fr d)) = _
      rw [hS]
    have hcalm : ∀ a, calmAt (F a (.fr d)) [i] = true := fun a => by simp [calmAt, hF]
    rcases he d List.mem_cons_self a ha with ⟨a', x, g', px, a1, e1, e2⟩ | ⟨a', g', e1⟩
    · obtain ⟨xs, a2, c2, k1, k2, k3, k4, k5⟩ := compL_draw hF hS ds (acc ++ [x]) a' (.fr d) g' (.inr ⟨d, rfl⟩) (by simp; omega) fun e hm => he e (List.mem_cons_of_mem _ hm)
      refine ⟨x :: xs, a2, c2, k1, k2, ⟨by simp; exact k3.1, fun z => by simp [k3.2 z]⟩, fun y hy => ?_, ?_⟩
      · rcases List.mem_cons.mp hy with rfl | hy
        · exact px
        · exact k4 y hy
      · unfold compL
        rw [h1]
        dsimp only
        rw [e1]
        dsimp only
        rw [e2]
        dsimp only
        rw [if_pos ⟨by omega, hcalm a'⟩, k5, List.append_assoc]
        rfl
    · obtain ⟨xs, a2, c2, k1, k2, k3, k4, k5⟩ := compL_draw hF hS ds acc a' (.fr d) g' (.inr ⟨d, rfl⟩) (by omega) fun e hm => he e (List.mem_cons_of_mem _ hm)
      refine ⟨xs, a2, c2, k1, k2, ⟨by have := k3.1; simp; omega, fun z => by rw [z] at e1; cases e1⟩, k4, ?_⟩
      unfold compL
      rw [h1]
      dsimp only
      rw [e1]
      dsimp only
      rw [if_pos (hcalm a'), k5]
theorem comp_draw {i : Nat} {it : Sem (List D)} {cond : Sem Bool} {elt : Sem D} {F : Int → Cell → Env} {G : Int → Prop} {Px : D → Prop} {ρ : Env} {ds : List D} {a : Int} {c : Cell} (hF : ∀ a c, (F a c)[i]? = some c) (hS : ∀ a c c', (F a c).set i c' = F a c')
    (hit : it ρ = .ok ds (F a c)) (ha : G a) (hc : NoD c) (hl : ds.length ≤ LIM)
    (he : ∀ d ∈ ds, ∀ a, G a → (∃ a' x, G a' ∧ Px x ∧ ∃ a1, cond (F a (.fr d)) = .ok true (F a1 (.fr d)) ∧ elt (F a1 (.fr d)) = .ok x (F a' (.fr d))) ∨ ∃ a', G a' ∧ cond (F a (.fr d)) = .ok false (F a' (.fr d))) :
    ∃ xs a', G a' ∧ (xs.length ≤ ds.length ∧ (cond = sYes → xs.length = ds.length)) ∧ (∀ x ∈ xs, Px x) ∧ sComp [i] (.name i) it cond elt ρ = .ok (.ow (.lst xs)) (F a' c) := by
  obtain ⟨xs, a', c', k1, k2, k3, k4, k5⟩ := compL_draw hF hS ds [] a c ha hc (by simpa using hl) he
  refine ⟨xs, a', k1, k3, k4, ?_⟩
  rw [List.nil_append] at k5
  have hcm : calmAt (F a c) [i] = true := by
    rcases hc with rfl | ⟨d, rfl⟩ <;> simp [calmAt, hF]
  unfold sComp
  simp only [hit, hcm, if_true, k5]
  have : DL.restore (F a c) (F a' c') [i] = F a' c := by
    show (F a' c').set i (((F a c)[i]?).getD .no) = _
    rw [hF, hS]; rfl
  rw [this]
theorem comp_all {i : Nat} {it : Sem (List D)} {elt : Sem D} {p : D → Bool} {ρ ρ1 : Env} {ds : List D} {c : Cell} (hit : it ρ = .ok ds ρ1) (h0 : ρ1[i]? = some c) (hc : NoD c) (hl : ds.length ≤ LIM) (he : ∀ d ∈ ds, elt (ρ1.set i (.fr d)) = .ok (.bl (p d)) (ρ1.set i (.fr d))) :
    ∃ L, sComp [i] (.name i) it sYes elt ρ = .ok (.ow (.lst L)) ρ1 ∧ bAll [.lst L] = some (.fr (.bl (ds.all p))) := by
  refine ⟨_, comp_map (g := fun d => .bl (p d)) hit h0 hc hl he, ?_⟩
  show (bools (ds.map fun d => D.bl (p d))).map _ = _
  rw [bools_map]
  show some (Cell.fr (.bl ((ds.map p).all id))) = _
  rw [List.all_map]
  rfl
theorem it_len {ρ : Env} {n : Int} {m : Sem Opd} (h : m ρ = .ok (.val (.int n)) ρ) (h0 : 0 ≤ n) (h1 : n < 2 ^ 62) : iRange1 m ρ = .ok (rng 0 n.toNat) ρ := by
  have q : -(2 ^ 62) ≤ n ∧ n < 2 ^ 62 := ⟨by omega, h1⟩
  unfold iRange1 s1 bind'
  rw [h]
  simp only [rdO, getO, q, and_self, if_true, opt]
theorem it_len1 {ρ : Env} {n : Int} {m : Sem Opd} (h : m ρ = .ok (.val (.int n)) ρ) (h0 : 0 ≤ n) (h1 : n < 2 ^ 62) : iRange2 (ov (sK (.int 1))) m ρ = .ok (rng 1 (n - 1).toNat) ρ := by
  have q : (-(2 ^ 62) ≤ (1 : Int) ∧ (1 : Int) < 2 ^ 62) ∧ -(2 ^ 62) ≤ n ∧ n < 2 ^ 62 := ⟨⟨by omega, by omega⟩, by omega, h1⟩
  unfold iRange2 s2 bind' ov bind' sK
  simp only [opt, outD, Option.map, h, rdO, getO]
  rw [if_pos q]
theorem rng_len (lo : Int) (n : Nat) : (rng lo n).length = n := by simp [rng]
theorem rng_mem {lo : Int} {n : Nat} {d : D} (h : d ∈ rng lo n) : ∃ k : Nat, k < n ∧ d = .int (lo + k) := by
  unfold rng at h
  obtain ⟨k, hk, rfl⟩ := List.mem_map.mp h
  exact ⟨k, List.mem_range.mp hk, rfl⟩
theorem run_ret {fn : Fn} {Γ : Ora} {cs : List Cell} {ρ : Env} {c : Cell} {os : List D} (hl : cs.length = fn.np) (h : fn.body Γ (cs ++ List.replicate (fn.ns - fn.np) .no) = .ok (.ret c) ρ) (ho : outs ρ 0 fn.nio = some os) (hc : outC c = true) : fn.run Γ cs = .ok c os := by
  unfold Fn.run
  rw [if_pos hl, h]
  simp only [ho, hc, if_true]
theorem run_next {fn : Fn} {Γ : Ora} {cs : List Cell} {ρ : Env} {os : List D} (hl : cs.length = fn.np) (h : fn.body Γ (cs ++ List.replicate (fn.ns - fn.np) .no) = .ok .next ρ) (ho : outs ρ 0 fn.nio = some os) : fn.run Γ cs = .ok (.fr .non) os := by
  unfold Fn.run
  rw [if_pos hl, h]
  simp only [ho]
theorem run_exc {fn : Fn} {Γ : Ora} {cs : List Cell} {ρ : Env} {x : Exc} {os : List D} (hl : cs.length = fn.np) (h : fn.body Γ (cs ++ List.replicate (fn.ns - fn.np) .no) = .exc x ρ) (ho : outs ρ 0 fn.nio = some os) : fn.run Γ cs = .exc x os := by
  unfold Fn.run
  rw [if_pos hl, h]
  simp only [ho]
theorem seq_next {a b : Sem Flow} {ρ ρ1 : Env} (h : a ρ = .ok .next ρ1) : seq a b ρ = b ρ1 := by
  unfold seq bind'
  rw [h]
theorem seq_ret {a b : Sem Flow} {ρ ρ1 : Env} {c : Cell} (h : a ρ = .ok (.ret c) ρ1) : seq a b ρ = .ok (.ret c) ρ1 := by
  unfold seq bind'
  rw [h]
  rfl
theorem seq_exc {a b : Sem Flow} {ρ ρ1 : Env} {x : Exc} (h : a ρ = .exc x ρ1) : seq a b ρ = .exc x ρ1 := by
  unfold seq bind'
  rw [h]
theorem sRet_ok {m : Sem Cell} {ρ ρ1 : Env} {c : Cell} (h : m ρ = .ok c ρ1) : sRet m ρ = .ok (.ret c) ρ1 := by
  unfold sRet bind'
  rw [h]
  rfl
theorem if_true' {α : Type} {c : Sem Bool} {a b : Sem α} {ρ ρ1 : Env} (h : c ρ = .ok true ρ1) : sIf c a b ρ = a ρ1 := by
  unfold sIf bind'
  rw [h]
theorem if_false' {α : Type} {c : Sem Bool} {a b : Sem α} {ρ ρ1 : Env} (h : c ρ = .ok false ρ1) : sIf c a b ρ = b ρ1 := by
  unfold sIf bind'
  rw [h]
theorem or_t {a b : Sem Bool} {ρ ρ1 : Env} (h : a ρ = .ok true ρ1) : sOr a b ρ = .ok true ρ1 := by
  unfold sOr sIf bind'
  rw [h]
  rfl
theorem or_f {a b : Sem Bool} {ρ ρ1 ρ2 : Env} {k : Bool} (h : a ρ = .ok false ρ1) (h2 : b ρ1 = .ok k ρ2) : sOr a b ρ = .ok k ρ2 := by
  unfold sOr sIf bind'
  rw [h]
  exact h2
theorem not_ok {a : Sem Bool} {ρ ρ1 : Env} {k : Bool} (h : a ρ = .ok k ρ1) : sNot a ρ = .ok (!k) ρ1 := by
  unfold sNot bind'
  rw [h]
  rfl
theorem and_f {a b : Sem Bool} {ρ ρ1 : Env} (h : a ρ = .ok false ρ1) : sAnd a b ρ = .ok false ρ1 := by
  unfold sAnd sIf bind'
  rw [h]
  rfl
theorem and_t {a b : Sem Bool} {ρ ρ1 ρ2 : Env} {k : Bool} (h : a ρ = .ok true ρ1) (h2 : b ρ1 = .ok k ρ2) : sAnd a b ρ = .ok k ρ2 := by
  unfold sAnd sIf bind'
  rw [h]
  exact h2
theorem set_ok {i : Nat} {m : Sem Cell} {ρ ρ1 ρ2 : Env} {c : Cell} (h : m ρ = .ok c ρ1) (h2 : put i c ρ1 = some ρ2) : sSet i m ρ = .ok .next ρ2 := by
  unfold sSet bind' putS
  rw [h]
  simp only [h2]
theorem sB1_ok {β : Type} {f : List D → Option β} {m : Sem Cell} {ρ ρ1 : Env} {c : Cell} {d : D} {r : β} (h : m ρ = .ok c ρ1) (hc : outD c = some d) (hf : f [d] = some r) : sB f (oCons (ov m) oNil) ρ = .ok r ρ1 := by
  unfold sB oCons oNil ov
  simp only [bind', h, opt, hc, Option.map, pure', rdOs, getOs, getO, hf]
theorem sB1_var {β : Type} {f : List D → Option β} {i : Nat} {ρ : Env} {d : D} {r : β} (h : (ρ[i]?).bind Cell.dat = some d) (hf : f [d] = some r) : sB f (oCons (oVar i) oNil) ρ = .ok r ρ := by
  unfold sB oCons oNil oVar
  simp only [bind', h, opt, pure', rdOs, getOs, getO, hf]
theorem tru_ok {m : Sem Cell} {ρ ρ1 : Env} {k : Bool} (h : m ρ = .ok (.fr (.bl k)) ρ1) : sTru (ov m) ρ = .ok k ρ1 := by
  unfold sTru s1 ov
  simp only [bind', h, opt, outD, Option.map, rdO, getO, truth]
theorem fz_ok {m : Sem Cell} {ρ ρ1 : Env} {c : Cell} {d : D} (h : m ρ = .ok c ρ1) (hc : outD c = some d) : fz m ρ = .ok d ρ1 := by
  unfold fz bind'
  rw [h]
  simp only [hc, opt]
theorem skip_if {c : Sem Bool} {a b : Sem Flow} {ρ ρ1 : Env} {r : R Flow} (hc : c ρ = .ok false ρ1) (hb : b ρ1 = r) : seq (sIf c a skip) b ρ = r := (seq_next ((if_false' hc).trans rfl)).trans hb
theorem take_ret {c : Sem Bool} {a a' b : Sem Flow} {ρ ρ1 ρ2 : Env} {x : Cell} (hc : c ρ = .ok true ρ1) (ha : a ρ1 = .ok (.ret x) ρ2) : seq (sIf c a a') b ρ = .ok (.ret x) ρ2 := seq_ret ((if_true' hc).trans ha)
theorem seq_to {a b : Sem Flow} {ρ ρ1 : Env} {r : R Flow} (h : a ρ = .ok .next ρ1) (hb : b ρ1 = r) : seq a b ρ = r := (seq_next h).trans hb
theorem isN_ok {i : Nat} {ρ : Env} {d : D} (h : (ρ[i]?).bind Cell.dat = some d) : sIsN (oVar i) ρ = .ok d.isNon ρ := by
  unfold sIsN s1 oVar
  simp only [bind', h, rdO, getO, opt]
theorem bOf_ok {m : Sem Bool} {ρ ρ1 : Env} {k : Bool} (h : m ρ = .ok k ρ1) : bOf (sBl m) ρ = .ok k ρ1 := by
  unfold bOf sBl
  simp only [bind', h, pure', opt]
theorem isi_ok {i : Nat} {ρ : Env} {d : D} {t : Ty} (h : (ρ[i]?).bind Cell.dat = some d) : sIsi t (oVar i) ρ = .ok (isi t d) ρ := by
  unfold sIsi s1 oVar
  simp only [bind', h, rdO, getO, opt]
theorem isL_ok {i : Nat} {ρ : Env} {d : D} {t : Ty} (h : (ρ[i]?).bind Cell.dat = some d) : sTru (ov (sBl (sIsi t (oVar i)))) ρ = .ok (isi t d) ρ := by
  refine tru_ok ?_
  unfold sBl
  simp only [bind', isi_ok h, pure']
theorem oVar_ok {i : Nat} {ρ : Env} {d : D} (h : (ρ[i]?).bind Cell.dat = some d) : oVar i ρ = .ok (.slot i) ρ := by
  unfold oVar
  rw [h]
theorem ov_ok {m : Sem Cell} {ρ ρ1 : Env} {c : Cell} {d : D} (h : m ρ = .ok c ρ1) (hc : outD c = some d) : ov m ρ = .ok (.val d) ρ1 := by
  unfold ov bind'
  rw [h]
  simp only [hc, opt, Option.map]
theorem s2_ok {β : Type} {a b : Sem Opd} {x y : Opd} {ρ : Env} {d e : D} {f : D → D → Option β} {r : β} (ha : a ρ = .ok x ρ) (hb : b ρ = .ok y ρ) (gx : getO ρ x = some d) (gy : getO ρ y = some e) (hf : f d e = some r) : s2 a b f ρ = .ok r ρ := by
  unfold s2
  simp only [bind', ha, hb, rdO, gx, gy, hf, opt]
theorem chain_ok {o1 o2 : COp} {a b c : Sem Opd} {x y z : Opd} {d e f : D} {k1 k2 : Bool} {ρ : Env} (ha : a ρ = .ok x ρ) (hb : b ρ = .ok y ρ) (hc : c ρ = .ok z ρ) (gx : getO ρ x = some d) (gy : getO ρ y = some e) (gz : getO ρ z = some f)
    (h1 : cmpop o1 d e = some k1) (h2 : cmpop o2 e f = some k2) : sChain o1 o2 a b c ρ = .ok (k1 && k2) ρ := by
  unfold sChain
  simp only [bind', ha, hb, rdO, gx, gy, h1, opt]
  cases k1 with
  | true => simp only [bind', hc, rdO, gy, gz, h2, opt, Bool.true_and]
  | false => rfl
theorem call1_ok {Γ : Ora} {f i : Nat} {ρ : Env} {d : D} {c : Cell} (h : ρ[i]? = some (.fr d)) (hc : Γ f [.fr d] = .ok c []) : sCall Γ f [] (sCons (fz (sVar i)) sNil) ρ = .ok c ρ := by
  unfold sCall lentOk lent sCons sNil fz sVar sCall1
  simp only [bind', h, opt, outD, pure', lent, List.map_nil, List.nil_append, List.map_cons, hc, back]
theorem cons_ok {a : Sem D} {b : Sem (List D)} {ρ ρ1 ρ2 : Env} {x : D} {xs : List D} (h1 : a ρ = .ok x ρ1) (h2 : b ρ1 = .ok xs ρ2) : sCons a b ρ = .ok (x :: xs) ρ2 := by
  unfold sCons bind'
  simp only [h1, h2, pure']
theorem lst_ok {m : Sem (List D)} {ρ ρ1 : Env} {xs : List D} (h : m ρ = .ok xs ρ1) (hl : xs.length ≤ LIM) : sLst m ρ = .ok (.ow (.lst xs)) ρ1 := by
  unfold sLst bind'
  rw [h]
  simp only [opt, if_pos hl]
theorem tup_ok {m : Sem (List D)} {ρ ρ1 : Env} {xs : List D} (h : m ρ = .ok xs ρ1) (hl : xs.length ≤ LIM) : sTup m ρ = .ok (.fr (.tup xs)) ρ1 := by
  unfold sTup bind'
  rw [h]
  simp only [opt, if_pos hl]
theorem compL_filter {i : Nat} {cond : Sem Bool} {elt : Sem D} {p : D → Bool} {ρ : Env} (hi : i < ρ.length) :
    ∀ (ds acc : List D) (c : Cell), NoD c → acc.length + ds.length ≤ LIM → (∀ d ∈ ds, cond (ρ.set i (.fr d)) = .ok (p d) (ρ.set i (.fr d)) ∧ elt (ρ.set i (.fr d)) = .ok d (ρ.set i (.fr d))) →
    ∃ c', compL [i] (.name i) cond elt ds acc (ρ.set i c) = .ok (acc ++ ds.filter p) (ρ.set i c')
  | [], acc, c, _, _, _ => ⟨c, by rw [List.filter_nil, List.append_nil]; rfl⟩
  | d :: ds, acc, c, hc, hl, he => by
    rw [List.length_cons] at hl
    have h1 : store (.name i) d (DL.wipe (ρ.set i c) [i]) = some (ρ.set i (.fr d)) := by
      simp [store, put, DL.wipe, List.getElem?_set_self, hi]
    have h2 : calmAt (ρ.set i (.fr d)) [i] = true := by
      simp [calmAt, List.getElem?_set_self, hi]
    obtain ⟨e1, e2⟩ := he d List.mem_cons_self
    cases hp : p d with
    | true =>
      obtain ⟨c', h3⟩ := compL_filter hi ds (acc ++ [d]) (.fr d) (.inr ⟨d, rfl⟩) (by simp; omega) fun e he' => he e (List.mem_cons_of_mem _ he')
      refine ⟨c', ?_⟩
      rw [hp] at e1
      unfold compL
      rw [h1]
      dsimp only
      rw [e1]
      dsimp only
      rw [e2]
      dsimp only
      rw [if_pos ⟨by omega, h2⟩, h3, List.append_assoc, List.filter_cons_of_pos hp]
      rfl
    | false =>
      obtain ⟨c', h3⟩ := compL_filter hi ds acc (.fr d) (.inr ⟨d, rfl⟩) (by omega) fun e he' => he e (List.mem_cons_of_mem _ he')
      refine ⟨c', ?_⟩
      rw [hp] at e1
      unfold compL
      rw [h1]
      dsimp only
      rw [e1]
      dsimp only
      rw [if_pos h2, h3, List.filter_cons_of_neg (by rw [hp]; exact fun z => by cases z)]
/-- a comprehension over one name with a test -/
theorem comp_filter {i : Nat} {it : Sem (List D)} {cond : Sem Bool} {elt : Sem D} {p : D → Bool} {ρ ρ1 : Env} {ds : List D} {c : Cell} (hit : it ρ = .ok ds ρ1) (h0 : ρ1[i]? = some c) (hc : NoD c) (hl : ds.length ≤ LIM)
    (he : ∀ d ∈ ds, cond (ρ1.set i (.fr d)) = .ok (p d) (ρ1.set i (.fr d)) ∧ elt (ρ1.set i (.fr d)) = .ok d (ρ1.set i (.fr d))) : sComp [i] (.name i) it cond elt ρ = .ok (.ow (.lst (ds.filter p))) ρ1 := by
  have hi : i < ρ1.length := (List.getElem?_eq_some_iff.mp h0).1
  have hs : ρ1.set i c = ρ1 := by
    apply List.ext_getElem?
    intro j
    by_cases e : i = j
    · subst e; rw [List.getElem?_set_self hi, h0]
    · rw [List.getElem?_set_ne e]
  obtain ⟨c', h⟩ := compL_filter hi ds [] c hc (by simpa using hl) he
  rw [hs, List.nil_append] at h
  have hcm : calmAt ρ1 [i] = true := by
    rcases hc with rfl | ⟨d, rfl⟩ <;> simp [calmAt, h0]
  unfold sComp
  simp only [hit, hcm, if_true, h]
  have : DL.restore ρ1 (ρ1.set i c') [i] = ρ1 := by
    simp [DL.restore, h0, List.set_set, hs]
  rw [this]
theorem compL_fm {i : Nat} {cond : Sem Bool} {elt : Sem D} {p : D → Bool} {g : D → D} {ρ : Env} (hi : i < ρ.length) :
    ∀ (ds acc : List D) (c : Cell), NoD c → acc.length + ds.length ≤ LIM → (∀ d ∈ ds, cond (ρ.set i (.fr d)) = .ok (p d) (ρ.set i (.fr d)) ∧ (p d = true → elt (ρ.set i (.fr d)) = .ok (g d) (ρ.set i (.fr d)))) →
    ∃ c', compL [i] (.name i) cond elt ds acc (ρ.set i c) = .ok (acc ++ (ds.filter p).map g) (ρ.set i c')
  | [], acc, c, _, _, _ => ⟨c, by rw [List.filter_nil, List.map_nil, List.append_nil]; rfl⟩
  | d :: ds, acc, c, hc, hl, he => by
    rw [List.length_cons] at hl
    have h1 : store (.name i) d (DL.wipe (ρ.set i c) [i]) = some (ρ.set i (.fr d)) := by
      simp [store, put, DL.wipe, List.getElem?_set_self, hi]
    have h2 : calmAt (ρ.set i (.fr d)) [i] = true := by
      simp [calmAt, List.getElem?_set_self, hi]
    obtain ⟨e1, e2⟩ := he d List.mem_cons_self
    cases hp : p d with
    | true =>
      obtain ⟨c', h3⟩ := compL_fm hi ds (acc ++ [g d]) (.fr d) (.inr ⟨d, rfl⟩) (by simp; omega) fun e he' => he e (List.mem_cons_of_mem _ he')
      refine ⟨c', ?_⟩
      rw [hp] at e1
      unfold compL
      rw [h1]
      dsimp only
      rw [e1]
      dsimp only
      rw [e2 hp]
      dsimp only
      rw [if_pos ⟨by omega, h2⟩, h3, List.append_assoc, List.filter_cons_of_pos hp, List.map_cons]
      rfl
    | false =>
      obtain ⟨c', h3⟩ := compL_fm hi ds acc (.fr d) (.inr ⟨d, rfl⟩) (by omega) fun e he' => he e (List.mem_cons_of_mem _ he')
      refine ⟨c', ?_⟩
      rw [hp] at e1
      unfold compL
      rw [h1]
      dsimp only
      rw [e1]
      dsimp only
      rw [if_pos h2, h3, List.filter_cons_of_neg (by rw [hp]; exact fun z => by cases z)]
/-- .. and a value -/
theorem comp_fm {i : Nat} {it : Sem (List D)} {cond : Sem Bool} {elt : Sem D} {p : D → Bool} {g : D → D} {ρ ρ1 : Env} {ds : List D} {c : Cell} (hit : it ρ = .ok ds ρ1) (h0 : ρ1[i]? = some c) (hc : NoD c) (hl : ds.length ≤ LIM)
    (he : ∀ d ∈ ds, cond (ρ1.set i (.fr d)) = .ok (p d) (ρ1.set i (.fr d)) ∧ (p d = true → elt (ρ1.set i (.fr d)) = .ok (g d) (ρ1.set i (.fr d)))) : sComp [i] (.name i) it cond elt ρ = .ok (.ow (.lst ((ds.filter p).map g))) ρ1 := by
  have hi : i < ρ1.length := (List.getElem?_eq_some_iff.mp h0).1
  have hs : ρ1.set i c = ρ1 := by
    apply List.ext_getElem?
    intro j
    by_cases e : i = j
    · subst e; rw [List.getElem?_set_self hi, h0]
    · rw [List.getElem?_set_ne e]
  obtain ⟨c', h⟩ := compL_fm hi ds [] c hc (by simpa using hl) he
  rw [hs, List.nil_append] at h
  have hcm : calmAt ρ1 [i] = true := by
    rcases hc with rfl | ⟨d, rfl⟩ <;> simp [calmAt, h0]
  unfold sComp
  simp only [hit, hcm, if_true, h]
  have : DL.restore ρ1 (ρ1.set i c') [i] = ρ1 := by
    simp [DL.restore, h0, List.set_set, hs]
  rw [this]
/-- a call with one lent name of one's own -/
theorem call1L_ok {Γ : Ora} {f i : Nat} {ρ ρ1 : Env} {m : Sem D} {x d x' : D} {c : Cell} (h : ρ[i]? = some (.ow x)) (hm : m ρ = .ok d ρ1) (h1 : ρ1[i]? = some (.ow x)) (hc : Γ f [.io x, .fr d] = .ok c [x']) : sCall Γ f [i] (sCons m sNil) ρ = .ok c (ρ1.set i (.ow x')) := by
  unfold sCall lentOk lent lent1 sCons sNil sCall1
  simp only [bind', h, hm, pure', lent, lent1, h1, List.map_cons, List.map_nil, List.cons_append, List.nil_append, hc, back, redo]
theorem call2v_ok {Γ : Ora} {f : Nat} {ρ ρ1 ρ2 : Env} {m m' : Sem D} {d d' : D} {c : Cell} (h1 : m ρ = .ok d ρ1) (h2 : m' ρ1 = .ok d' ρ2) (hc : Γ f [.fr d, .fr d'] = .ok c []) : sCall Γ f [] (sCons m (sCons m' sNil)) ρ = .ok c ρ2 := by
  unfold sCall lentOk lent sCons sNil sCall1
  simp only [bind', h1, h2, pure', lent, List.map_cons, List.map_nil, List.nil_append, hc, back]
theorem call1v_ok {Γ : Ora} {f : Nat} {ρ ρ1 : Env} {m : Sem D} {d : D} {c : Cell} (h1 : m ρ = .ok d ρ1) (hc : Γ f [.fr d] = .ok c []) : sCall Γ f [] (sCons m sNil) ρ = .ok c ρ1 := by
  unfold sCall lentOk lent sCons sNil sCall1
  simp only [bind', h1, pure', lent, List.map_cons, List.map_nil, List.nil_append, hc, back]
theorem sVar_fr {i : Nat} {ρ : Env} {d : D} (h : ρ[i]? = some (.fr d)) : fz (sVar i) ρ = .ok d ρ := by
  unfold fz sVar bind'
  simp only [h, outD, opt]
theorem sVar_ow {i : Nat} {ρ : Env} {d : D} (h : ρ[i]? = some (.ow d)) : fz (sVar i) ρ = .ok d (ρ.set i (.fr d)) := by
  unfold fz sVar bind'
  simp only [h, outD, opt]
theorem s1_ok {β : Type} {a : Sem Opd} {x : Opd} {ρ ρ1 : Env} {d : D} {f : D → Option β} {r : β} (ha : a ρ = .ok x ρ1) (gx : getO ρ1 x = some d) (hf : f d = some r) : s1 a f ρ = .ok r ρ1 := by
  unfold s1
  simp only [bind', ha, rdO, gx, hf, opt]
theorem s2v_ok {β : Type} {a b : Sem Opd} {d e : D} {ρ ρ1 ρ2 : Env} {f : D → D → Option β} {r : β} (ha : a ρ = .ok (.val d) ρ1) (hb : b ρ1 = .ok (.val e) ρ2) (hf : f d e = some r) : s2 a b f ρ = .ok r ρ2 := by
  unfold s2
  simp only [bind', ha, hb, rdO, getO, hf, opt]
theorem run_ret2 {fn : Fn} {Γ : Ora} {cs : List Cell} {ρ0 ρ : Env} {c : Cell} {os : List D} (hl : cs.length = fn.np) (he : cs ++ List.replicate (fn.ns - fn.np) .no = ρ0) (h : fn.body Γ ρ0 = .ok (.ret c) ρ) (ho : outs ρ 0 fn.nio = some os) (hc : outC c = true) : fn.run Γ cs = .ok c os := run_ret hl (by rw [he]; exact h) ho hc
/-- the same, with the parts of the def by name: hand in the body's end first -/
theorem run_r {np nio ns : Nat} {body : Ora → Sem Flow} {Γ : Ora} {cs : List Cell} {ρ0 ρ : Env} {c : Cell} {os : List D} (h : body Γ ρ0 = .ok (.ret c) ρ) (hl : cs.length = np) (he : cs ++ List.replicate (ns - np) .no = ρ0) (ho : outs ρ 0 nio = some os) (hc : outC c = true) : (Fn.mk np nio ns body).run Γ cs = .ok c os :=
  run_ret (fn := ⟨np, nio, ns, body⟩) hl (by show body Γ (cs ++ List.replicate (ns - np) .no) = _; rw [he]; exact h) ho hc
theorem call3v_ok {Γ : Ora} {f : Nat} {ρ ρ1 ρ2 ρ3 : Env} {m m' m'' : Sem D} {d d' d'' : D} {c : Cell} (h1 : m ρ = .ok d ρ1) (h2 : m' ρ1 = .ok d' ρ2) (h3 : m'' ρ2 = .ok d'' ρ3) (hc : Γ f [.fr d, .fr d', .fr d''] = .ok c []) : sCall Γ f [] (sCons m (sCons m' (sCons m'' sNil))) ρ = .ok c ρ3 := by
  unfold sCall lentOk lent sCons sNil sCall1
  simp only [bind', h1, h2, h3, pure', lent, List.map_cons, List.map_nil, List.nil_append, hc, back]
theorem call4v_ok {Γ : Ora} {f : Nat} {ρ ρ1 ρ2 ρ3 ρ4 : Env} {m m' m'' n : Sem D} {d d' d'' e : D} {c : Cell} (h1 : m ρ = .ok d ρ1) (h2 : m' ρ1 = .ok d' ρ2) (h3 : m'' ρ2 = .ok d'' ρ3) (h4 : n ρ3 = .ok e ρ4) (hc : Γ f [.fr d, .fr d', .fr d'', .fr e] = .ok c []) : sCall Γ f [] (sCons m (sCons m' (sCons m'' (sCons n sNil)))) ρ = .ok c ρ4 := by
  unfold sCall lentOk lent sCons sNil sCall1
  simp only [bind', h1, h2, h3, h4, pure', lent, List.map_cons, List.map_nil, List.nil_append, hc, back]
theorem for_ok {t : Tgt} {it : Sem (List D)} {body : Sem Flow} {ρ ρ1 : Env} {ds : List D} (h : it ρ = .ok ds ρ1) : sFor t it body ρ = forL t body ds ρ1 := by
  unfold sFor bind'
  rw [h]
theorem iSeq_ok {m : Sem D} {ρ ρ1 : Env} {d : D} {ds : List D} (h : m ρ = .ok d ρ1) (hi : items d = some ds) : iSeq m ρ = .ok ds ρ1 := by
  unfold iSeq bind'
  rw [h]
  simp only [hi, opt]
theorem retVar_fr {i : Nat} {ρ : Env} {d : D} (h : ρ[i]? = some (.fr d)) : sRetVar i ρ = .ok (.ret (.fr d)) ρ := by
  unfold sRetVar
  rw [h]
theorem retVar_ow {i : Nat} {ρ : Env} {d : D} (h : ρ[i]? = some (.ow d)) : sRetVar i ρ = .ok (.ret (.ow d)) (ρ.set i .no) := by
  unfold sRetVar
  rw [h]
theorem it_nat {m : Sem Opd} {x : Opd} {ρ : Env} {n : Nat} (h : m ρ = .ok x ρ) (g : getO ρ x = some (.int n)) (hn : n < 1000000) : iRange1 m ρ = .ok (rng 0 n) ρ := by
  have b : -(2 ^ 62) ≤ (n : Int) ∧ (n : Int) < 2 ^ 62 := by omega
  unfold iRange1 s1 bind'
  rw [h]
  simp only [rdO, g]
  rw [if_pos b]
  rfl
theorem and_b {a b : Sem Bool} {ρ : Env} {k j : Bool} (h : a ρ = .ok k ρ) (h2 : b ρ = .ok j ρ) : sAnd a b ρ = .ok (k && j) ρ := by
  cases k with
  | true => exact and_t h h2
  | false => exact and_f h
theorem sl_ok {a : Sem Opd} {l h : Sem (Option Int)} {x : Opd} {ρ : Env} {lo hi : Option Int} {d : D} {c : Cell} (ha : a ρ = .ok x ρ) (hl : l ρ = .ok lo ρ) (hh : h ρ = .ok hi ρ) (g : getO ρ x = some d) (hs : slice d lo hi = some c) : sSl a l h ρ = .ok c ρ := by
  unfold sSl
  simp only [bind', ha, hl, hh, rdO, g, hs, opt]
theorem setItem_ok {i : Nat} {k m : Sem D} {ρ ρ1 ρ2 : Env} {e kd d0 d d' : D} (h1 : m ρ = .ok e ρ1) (h0 : (ρ1[i]?).bind Cell.dat = some d0) (h2 : k ρ1 = .ok kd ρ2) (hl : lent1 ρ2 i = some d) (hs : setItem kd e d = some ((), d')) : sSetItem i k m ρ = .ok .next (redo ρ2 i d') := by
  unfold sSetItem
  simp only [bind', h1, oVar_ok h0, h2, change, hl, hs, pure']
theorem app_ok {i : Nat} {m : Sem D} {ρ ρ1 : Env} {e : D} {xs ys : List D} (h0 : (ρ[i]?).bind Cell.dat = some (.lst xs)) (h1 : m ρ = .ok e ρ1) (hl : lent1 ρ1 i = some (.lst ys)) (hn : ys.length < LIM) : sDrop (sMut i append m) ρ = .ok .next (redo ρ1 i (.lst (ys ++ [e]))) := by
  have a : append e (.lst ys) = some (.non, .lst (ys ++ [e])) := if_pos hn
  have b : s1 (oVar i) isLst ρ = .ok () ρ := s1_ok (oVar_ok h0) h0 rfl
  unfold sDrop sMut
  simp only [bind', b, h1, change, hl, a, pure']
theorem asg_ok {t : Tgt} {m : Sem D} {ρ ρ1 ρ2 : Env} {d : D} (h : m ρ = .ok d ρ1) (h2 : store t d ρ1 = some ρ2) : sAsg t m ρ = .ok .next ρ2 := by
  unfold sAsg storeS
  simp only [bind', h, h2]
theorem notN_ok {i : Nat} {ρ : Env} {d : D} (h : (ρ[i]?).bind Cell.dat = some d) : sNotN (oVar i) ρ = .ok (!d.isNon) ρ := s1_ok (oVar_ok h) h rfl
theorem while_go {c : Sem Bool} {b : Sem Flow} {n : Nat} {ρ ρ1 ρ2 : Env} {r : R Flow} (hc : c ρ = .ok true ρ1) (hb : b ρ1 = .ok .next ρ2) (hr : whileL c b n ρ2 = r) : whileL c b (n + 1) ρ = r := by
  unfold whileL bind'
  rw [hc]
  dsimp only
  rw [hb]
  exact hr
theorem while_ret {c : Sem Bool} {b : Sem Flow} {n : Nat} {ρ ρ1 ρ2 : Env} {x : Cell} (hc : c ρ = .ok true ρ1) (hb : b ρ1 = .ok (.ret x) ρ2) : whileL c b (n + 1) ρ = .ok (.ret x) ρ2 := by
  unfold whileL bind'
  rw [hc]
  dsimp only
  rw [hb]
  rfl
theorem while_end {c : Sem Bool} {b : Sem Flow} {n : Nat} {ρ ρ1 : Env} (hc : c ρ = .ok false ρ1) : whileL c b (n + 1) ρ = .ok .next ρ1 := by
  unfold whileL bind'
  rw [hc]
  rfl
end K68
/-! A search in width over words: plain Lean. -/
namespace Bfs
open DL
abbrev Wd := List Nat
/-! ### the order: the shorter first, of one length the less -/
theorem ltO_iff {a b : Wd} : ltO a b = true ↔ a.length < b.length ∨ (a.length = b.length ∧ a < b) := by unfold ltO; rw [decide_eq_true_eq]
theorem ltO_irrefl (a : Wd) : ¬ ltO a a = true := fun h => by
  rcases ltO_iff.mp h with z | ⟨_, z⟩
  · omega
  · exact List.lt_irrefl a z
theorem ltO_trans {a b c : Wd} (h : ltO a b = true) (h' : ltO b c = true) : ltO a c = true := by
  rw [ltO_iff] at *
  rcases h with h | ⟨h1, h2⟩
  · rcases h' with h' | ⟨h3, h4⟩ <;> exact .inl (by omega)
  · rcases h' with h' | ⟨h3, h4⟩
    · exact .inl (by omega)
    · exact .inr ⟨by omega, List.lt_trans h2 h4⟩
theorem ltO_tri (a b : Wd) : ltO a b = true ∨ a = b ∨ ltO b a = true := by
  rw [ltO_iff, ltO_iff]
  rcases Nat.lt_trichotomy a.length b.length with h | h | h
  · exact .inl (.inl h)
  · by_cases h1 : a < b
    · exact .inl (.inr ⟨h, h1⟩)
    · by_cases h2 : b < a
      · exact .inr (.inr (.inr ⟨h.symm, h2⟩))
      · exact .inr (.inl (List.le_antisymm (List.not_lt.mp h2) (List.not_lt.mp h1)))
  · exact .inr (.inr (.inl h))
theorem leO_iff {a b : Wd} : leO a b = true ↔ ¬ ltO b a = true := by unfold leO; simp
theorem leO_or {a b : Wd} : leO a b = true ↔ ltO a b = true ∨ a = b := by
  rw [leO_iff]
  constructor
  · intro h
    rcases ltO_tri a b with z | z | z
    · exact .inl z
    · exact .inr z
    · exact (h z).elim
  · rintro (h | rfl) z
    · exact ltO_irrefl _ (ltO_trans h z)
    · exact ltO_irrefl _ z
theorem leO_refl (a : Wd) : leO a a = true := leO_or.mpr (.inr rfl)
theorem leO_tot (a b : Wd) : leO a b = true ∨ leO b a = true := by
  rcases ltO_tri a b with z | z | z
  · exact .inl (leO_or.mpr (.inl z))
  · subst z; exact .inl (leO_refl _)
  · exact .inr (leO_or.mpr (.inl z))
theorem leO_trans {a b c : Wd} (h : leO a b = true) (h' : leO b c = true) : leO a c = true := by
  rw [leO_or] at *
  rcases h with h | rfl
  · rcases h' with h' | rfl
    · exact .inl (ltO_trans h h')
    · exact .inl h
  · exact h'
theorem leO_anti {a b : Wd} (h : leO a b = true) (h' : leO b a = true) : a = b := by
  rcases leO_or.mp h with z | z
  · exact (leO_iff.mp h' z).elim
  · exact z
theorem lt_le {a b c : Wd} (h : ltO a b = true) (h' : leO b c = true) : ltO a c = true := by
  rcases leO_or.mp h' with z | rfl
  · exact ltO_trans h z
  · exact h
theorem le_lt {a b c : Wd} (h : leO a b = true) (h' : ltO b c = true) : ltO a c = true := by
  rcases leO_or.mp h with z | rfl
  · exact ltO_trans z h'
  · exact h'
theorem lt_app : ∀ {a b : Wd}, a.length = b.length → a < b → ∀ (x y : Wd), a ++ x < b ++ y
  | [], [], _, h, _, _ => (List.lt_irrefl _ h).elim
  | [], _ :: _, hl, _, _, _ => by simp at hl
  | _ :: _, [], hl, _, _, _ => by simp at hl
  | a :: as, b :: bs, hl, h, x, y => by
    rw [List.cons_lt_cons_iff] at h
    rw [List.cons_append, List.cons_append, List.cons_lt_cons_iff]
    rcases h with h | ⟨h1, h2⟩
    · exact .inl h
    · exact .inr ⟨h1, lt_app (by simpa using hl) h2 x y⟩
theorem app_lt : ∀ (p : Wd) {x y : Wd}, x < y → p ++ x < p ++ y
  | [], _, _, h => h
  | a :: p, _, _, h => by
    rw [List.cons_append, List.cons_append, List.cons_lt_cons_iff]
    exact .inr ⟨rfl, app_lt p h⟩
theorem lt_snoc {a b : Wd} (h : ltO a b = true) (c d : Nat) : ltO (a ++ [c]) (b ++ [d]) = true := by
  rw [ltO_iff] at *
  rw [List.length_append, List.length_append]
  rcases h with h | ⟨h1, h2⟩
  · exact .inl (by simp; omega)
  · exact .inr ⟨by simp; omega, lt_app h1 h2 _ _⟩
theorem lt_snoc2 {c d : Nat} (p : Wd) (h : c < d) : ltO (p ++ [c]) (p ++ [d]) = true := by
  rw [ltO_iff]
  exact .inr ⟨by simp, app_lt p (by rw [List.cons_lt_cons_iff]; exact .inl h)⟩
theorem le_snoc {a b : Wd} (h : leO a b = true) (c : Nat) : leO (a ++ [c]) (b ++ [c]) = true := by
  rcases leO_or.mp h with z | rfl
  · exact leO_or.mpr (.inl (lt_snoc z c c))
  · exact leO_refl _
theorem nil_lt (p : Wd) (c : Nat) : ltO [] (p ++ [c]) = true := ltO_iff.mpr (.inl (by simp))
/-- y d < p c: then y < p, or y is p and d < c -/
theorem snoc_lt {y p : Wd} {d c : Nat} (h : ltO (y ++ [d]) (p ++ [c]) = true) : ltO y p = true ∨ (y = p ∧ d < c) := by
  rcases ltO_tri y p with z | z | z
  · exact .inl z
  · subst z
    refine .inr ⟨rfl, ?_⟩
    rcases Nat.lt_trichotomy d c with q | q | q
    · exact q
    · subst q; exact (ltO_irrefl _ h).elim
    · exact (ltO_irrefl _ (ltO_trans h (lt_snoc2 y q))).elim
  · exact (ltO_irrefl _ (ltO_trans h (lt_snoc z c d))).elim
theorem length_le {a b : Wd} (h : leO a b = true) : a.length ≤ b.length := by
  rcases leO_or.mp h with z | rfl
  · rcases ltO_iff.mp z with z | z <;> omega
  · exact Nat.le_refl _
theorem len_lt {a b : Wd} (h : a.length < b.length) : ltO a b = true := ltO_iff.mpr (.inl h)

/-! ### the search -/
section
variable {S : Type} (L : Wd) (s0 : S) (step : S → Nat → Option S) (fnd : S → Nat → Bool)
/-- where a word leads -/
def run (p : Wd) : Option S := p.foldl (fun s c => s.bind fun s => step s c) (some s0)
theorem run_snoc (p : Wd) (c : Nat) : run s0 step (p ++ [c]) = (run s0 step p).bind fun s => step s c := by
  unfold run
  rw [List.foldl_append]
  rfl
/-- what has been reached, its first part looked at -/
structure Good (done rest : List (S × Wd)) : Prop where
  a : ∀ e ∈ done ++ rest, run s0 step e.2 = some e.1 ∧ ∀ x ∈ e.2, x ∈ L
  b : (done ++ rest).Pairwise fun e f => ltO e.2 f.2 = true
  c : ∀ e ∈ done, ∀ c ∈ L, fnd e.1 c = false ∧ ∀ t, step e.1 c = some t → ∃ p', (t, p') ∈ done ++ rest ∧ leO p' (e.2 ++ [c]) = true
  d : ∀ e ∈ done ++ rest, e.2 = [] ∨ ∃ y d, e.2 = y ++ [d] ∧ ∃ f ∈ done, f.2 = y
  e : (s0, []) ∈ done ++ rest
  n : ((done ++ rest).map (·.1)).Nodup
/-- while an entry is looked at -/
structure Mid (done : List (S × Wd)) (cur : S × Wd) (rest : List (S × Wd)) (l1 : Wd) : Prop where
  a : ∀ e ∈ done ++ cur :: rest, run s0 step e.2 = some e.1 ∧ ∀ x ∈ e.2, x ∈ L
  b : (done ++ cur :: rest).Pairwise fun e f => ltO e.2 f.2 = true
  c : ∀ e ∈ done, ∀ c ∈ L, fnd e.1 c = false ∧ ∀ t, step e.1 c = some t → ∃ p', (t, p') ∈ done ++ cur :: rest ∧ leO p' (e.2 ++ [c]) = true
  c' : ∀ c ∈ l1, fnd cur.1 c = false ∧ ∀ t, step cur.1 c = some t → ∃ p', (t, p') ∈ done ++ cur :: rest ∧ leO p' (cur.2 ++ [c]) = true
  d : ∀ e ∈ done ++ cur :: rest, e.2 = [] ∨ ∃ y d, e.2 = y ++ [d] ∧ ((∃ f ∈ done, f.2 = y) ∨ (y = cur.2 ∧ d ∈ l1))
  e : (s0, []) ∈ done ++ cur :: rest
  n : ((done ++ cur :: rest).map (·.1)).Nodup
variable {L s0 step fnd}
theorem Good.start : Good L s0 step fnd [] [(s0, [])] where
  a := fun e he => by
    simp at he
    subst he
    exact ⟨rfl, by simp⟩
  b := by simp
  c := fun e he => by simp at he
  d := fun e he => by
    simp at he
    subst he
    exact .inl rfl
  e := by simp
  n := by simp
theorem Good.mid {done : List (S × Wd)} {cur : S × Wd} {rest : List (S × Wd)} (g : Good L s0 step fnd done (cur :: rest)) : Mid L s0 step fnd done cur rest [] where
  a := g.a
  b := g.b
  c := g.c
  c' := fun c hc => by simp at hc
  d := fun e he => by
    rcases g.d e he with h | ⟨y, d, h1, h2⟩
    · exact .inl h
    · exact .inr ⟨y, d, h1, .inl h2⟩
  e := g.e
  n := g.n
theorem Mid.good {done : List (S × Wd)} {cur : S × Wd} {rest : List (S × Wd)} (g : Mid L s0 step fnd done cur rest L) : Good L s0 step fnd (done ++ [cur]) rest where
  a := fun e he => g.a e (by simpa using he)
  b := by have := g.b; simpa using this
  c := fun e he c hc => by
    rcases List.mem_append.mp he with he | he
    · have := g.c e he c hc
      simpa using this
    · simp at he
      subst he
      have := g.c' c hc
      simpa using this
  d := fun e he => by
    rcases g.d e (by simpa using he) with h | ⟨y, d, h1, h2 | ⟨h2, _⟩⟩
    · exact .inl h
    · exact .inr ⟨y, d, h1, by
        obtain ⟨f, hf, e⟩ := h2
        exact ⟨f, List.mem_append_left _ hf, e⟩⟩
    · exact .inr ⟨y, d, h1, cur, by simp, h2.symm⟩
  e := by have := g.e; simpa using this
  n := by have := g.n; simpa using this
/-- a letter that leads nowhere new -/
theorem Mid.old {done : List (S × Wd)} {cur : S × Wd} {rest : List (S × Wd)} {l1 : Wd} {c : Nat} (g : Mid L s0 step fnd done cur rest l1) (hf : fnd cur.1 c = false) (ho : ∀ t, step cur.1 c = some t → t ∈ (done ++ cur :: rest).map (·.1))
    (hl : ∀ x ∈ l1, x < c) : Mid L s0 step fnd done cur rest (l1 ++ [c]) where
  a := g.a
  b := g.b
  c := g.c
  c' := fun c1 hc => by
    rcases List.mem_append.mp hc with hc | hc
    · exact g.c' c1 hc
    · simp at hc
      subst hc
      refine ⟨hf, fun t ht => ?_⟩
      obtain ⟨e, he, rfl⟩ := List.mem_map.mp (ho t ht)
      refine ⟨e.2, he, leO_or.mpr (.inl ?_)⟩
      rcases g.d e he with h | ⟨y, d, h1, h2 | ⟨h2, h3⟩⟩
      · rw [h]; exact nil_lt _ _
      · rw [h1]
        obtain ⟨f, hf, rfl⟩ := h2
        have := (List.pairwise_append.mp g.b).2.2 f hf cur (by simp)
        exact lt_snoc this _ _
      · rw [h1, h2]
        exact lt_snoc2 _ (hl d h3)
  d := fun e he => by
    rcases g.d e he with h | ⟨y, d, h1, h2 | ⟨h2, h3⟩⟩
    · exact .inl h
    · exact .inr ⟨y, d, h1, .inl h2⟩
    · exact .inr ⟨y, d, h1, .inr ⟨h2, List.mem_append_left _ h3⟩⟩
  e := g.e
  n := g.n
/-- a letter that leads to something new -/
theorem Mid.new {done : List (S × Wd)} {cur : S × Wd} {rest : List (S × Wd)} {l1 : Wd} {c : Nat} {t : S} (g : Mid L s0 step fnd done cur rest l1) (hf : fnd cur.1 c = false) (ht : step cur.1 c = some t) (ho : t ∉ (done ++ cur :: rest).map (·.1))
    (hl : ∀ x ∈ l1, x < c) (hc : c ∈ L) : Mid L s0 step fnd done cur (rest ++ [(t, cur.2 ++ [c])]) (l1 ++ [c]) := by
  have hq : done ++ cur :: (rest ++ [(t, cur.2 ++ [c])]) = (done ++ cur :: rest) ++ [(t, cur.2 ++ [c])] := by simp
  have less : ∀ e ∈ done ++ cur :: rest, ltO e.2 (cur.2 ++ [c]) = true := fun e he => by
    rcases g.d e he with h | ⟨y, d, h1, h2 | ⟨h2, h3⟩⟩
    · rw [h]; exact nil_lt _ _
    · rw [h1]
      obtain ⟨f, hf, rfl⟩ := h2
      have := (List.pairwise_append.mp g.b).2.2 f hf cur (by simp)
      exact lt_snoc this _ _
    · rw [h1, h2]
      exact lt_snoc2 _ (hl d h3)
  have hcur := g.a cur (by simp)
  refine ⟨?_, ?_, ?_, ?_, ?_, ?_, ?_⟩
  · rw [hq]
    intro e he
    rcases List.mem_append.mp he with he | he
    · exact g.a e he
    · simp at he
      subst he
      refine ⟨by rw [run_snoc, hcur.1]; exact ht, fun x hx => ?_⟩
      rcases List.mem_append.mp hx with hx | hx
      · exact hcur.2 x hx
      · simp at hx; subst hx; exact hc
  · rw [hq]
    exact List.pairwise_append.mpr ⟨g.b, by simp, fun e he f hf => by
      simp at hf
      subst hf
      exact less e he⟩
  · rw [hq]
    intro e he c1 hc1
    obtain ⟨h1, h2⟩ := g.c e he c1 hc1
    refine ⟨h1, fun t1 ht1 => ?_⟩
    obtain ⟨p', hp, hle⟩ := h2 t1 ht1
    exact ⟨p', List.mem_append_left _ hp, hle⟩
  · rw [hq]
    intro c1 hc1
    rcases List.mem_append.mp hc1 with hc1 | hc1
    · obtain ⟨h1, h2⟩ := g.c' c1 hc1
      refine ⟨h1, fun t1 ht1 => ?_⟩
      obtain ⟨p', hp, hle⟩ := h2 t1 ht1
      exact ⟨p', List.mem_append_left _ hp, hle⟩
    · simp at hc1
      subst hc1
      refine ⟨hf, fun t1 ht1 => ?_⟩
      rw [ht] at ht1
      cases ht1
      exact ⟨_, List.mem_append_right _ (by simp), leO_refl _⟩
  · rw [hq]
    intro e he
    rcases List.mem_append.mp he with he | he
    · rcases g.d e he with h | ⟨y, d, h1, h2 | ⟨h2, h3⟩⟩
      · exact .inl h
      · exact .inr ⟨y, d, h1, .inl h2⟩
      · exact .inr ⟨y, d, h1, .inr ⟨h2, List.mem_append_left _ h3⟩⟩
    · simp at he
      subst he
      exact .inr ⟨cur.2, c, rfl, .inr ⟨rfl, by simp⟩⟩
  · rw [hq]
    exact List.mem_append_left _ g.e
  · rw [hq, List.map_append]
    refine List.nodup_append.mpr ⟨g.n, by simp, fun x hx y hy => ?_⟩
    simp at hy
    subst hy
    rintro rfl
    exact ho hx
/-- a word not greater than the one looked at leads to where a word not greater leads -/
theorem Mid.rep {done : List (S × Wd)} {cur : S × Wd} {rest : List (S × Wd)} {l1 : Wd} (g : Mid L s0 step fnd done cur rest l1) :
    ∀ (k : Nat) (y : Wd) (s : S), y.length = k → (∀ x ∈ y, x ∈ L) → leO y cur.2 = true → run s0 step y = some s → ∃ p, (s, p) ∈ done ++ cur :: rest ∧ leO p y = true
  | 0, y, s, hk, _, _, hr => by
    have := List.length_eq_zero_iff.mp hk
    subst this
    cases hr
    exact ⟨[], g.e, leO_refl _⟩
  | k + 1, y, s, hk, hy, hle, hr => by
    obtain ⟨z, e, rfl⟩ : ∃ z e, y = z ++ [e] := by
      rcases List.eq_nil_or_concat y with h | ⟨z, e, h⟩
      · subst h; simp at hk
      · exact ⟨z, e, by simpa using h⟩
    rw [run_snoc] at hr
    cases hz : run s0 step z with
    | none => rw [hz] at hr; cases hr
    | some s' =>
      rw [hz] at hr
      have hr' : step s' e = some s := hr
      have hzl : z.length = k := by simpa using hk
      have hlt : ltO z (z ++ [e]) = true := len_lt (by simp)
      obtain ⟨p', hp', hle'⟩ := Mid.rep g k z s' hzl (fun x hx => hy x (List.mem_append_left _ hx)) (leO_or.mpr (.inl (lt_le hlt hle))) hz
      have h1 : ltO p' cur.2 = true := len_lt (by
        have := length_le hle'
        have := length_le hle
        rw [List.length_append] at this
        simp at this
        omega)
      have hd : (s', p') ∈ done := by
        rcases List.mem_append.mp hp' with h | h
        · exact h
        · rcases List.mem_cons.mp h with h | h
          · rw [← h] at h1; exact (ltO_irrefl _ h1).elim
          · have := (List.pairwise_cons.mp (List.pairwise_append.mp g.b).2.1).1 _ h
            exact (ltO_irrefl _ (ltO_trans h1 this)).elim
      obtain ⟨_, h2⟩ := g.c _ hd e (hy e (by simp))
      obtain ⟨p, hp, hle2⟩ := h2 s hr'
      exact ⟨p, hp, leO_trans hle2 (le_snoc hle' e)⟩
/-- what is found is the least -/
theorem Mid.least {done : List (S × Wd)} {cur : S × Wd} {rest : List (S × Wd)} {l1 : Wd} {c : Nat} (g : Mid L s0 step fnd done cur rest l1) (hl : ∀ x ∈ L, x < c → x ∈ l1) {y : Wd} {d : Nat} {s : S} (hy : ∀ x ∈ y, x ∈ L) (hd : d ∈ L) (hr : run s0 step y = some s) (hf : fnd s d = true) :
    leO (cur.2 ++ [c]) (y ++ [d]) = true := by
  rw [leO_iff]
  intro h
  have h1 := snoc_lt h
  have hle : leO y cur.2 = true := leO_or.mpr (h1.imp id fun z => z.1)
  obtain ⟨p, hp, hpy⟩ := g.rep _ y s rfl hy hle hr
  rcases h1 with h1 | ⟨h1, h2⟩
  · have h3 : ltO p cur.2 = true := le_lt hpy h1
    have hdn : (s, p) ∈ done := by
      rcases List.mem_append.mp hp with h | h
      · exact h
      · rcases List.mem_cons.mp h with h | h
        · rw [← h] at h3; exact (ltO_irrefl _ h3).elim
        · have := (List.pairwise_cons.mp (List.pairwise_append.mp g.b).2.1).1 _ h
          exact (ltO_irrefl _ (ltO_trans h3 this)).elim
    have := (g.c _ hdn d hd).1
    rw [hf] at this
    cases this
  · subst h1
    have hs : s = cur.1 := by
      have := (g.a cur (by simp)).1
      rw [hr] at this
      exact Option.some.inj this
    subst hs
    have := (g.c' d (hl d hd h2)).1
    rw [hf] at this
    cases this
/-- all has been looked at -/
theorem Good.all {done : List (S × Wd)} (g : Good L s0 step fnd done []) : ∀ (k : Nat) (y : Wd) (s : S), y.length = k → (∀ x ∈ y, x ∈ L) → run s0 step y = some s → ∃ p, (s, p) ∈ done ∧ leO p y = true
  | 0, y, s, hk, _, hr => by
    have := List.length_eq_zero_iff.mp hk
    subst this
    cases hr
    exact ⟨[], by have := g.e; simpa using this, leO_refl _⟩
  | k + 1, y, s, hk, hy, hr => by
    obtain ⟨z, e, rfl⟩ : ∃ z e, y = z ++ [e] := by
      rcases List.eq_nil_or_concat y with h | ⟨z, e, h⟩
      · subst h; simp at hk
      · exact ⟨z, e, by simpa using h⟩
    rw [run_snoc] at hr
    cases hz : run s0 step z with
    | none => rw [hz] at hr; cases hr
    | some s' =>
      rw [hz] at hr
      obtain ⟨p', hp', hle'⟩ := Good.all g k z s' (by simpa using hk) (fun x hx => hy x (List.mem_append_left _ hx)) hz
      obtain ⟨_, h2⟩ := g.c _ hp' e (hy e (by simp))
      obtain ⟨p, hp, hle2⟩ := h2 s hr
      exact ⟨p, by simpa using hp, leO_trans hle2 (le_snoc hle' e)⟩
theorem Good.none {done : List (S × Wd)} (g : Good L s0 step fnd done []) {y : Wd} {d : Nat} {s : S} (hy : ∀ x ∈ y, x ∈ L) (hd : d ∈ L) (hr : run s0 step y = some s) : fnd s d = false := by
  obtain ⟨p, hp, _⟩ := g.all _ y s rfl hy hr
  exact (g.c _ hp d hd).1
end
theorem nodup_len {α : Type} [DecidableEq α] : ∀ (xs ys : List α), xs.Nodup → (∀ x ∈ xs, x ∈ ys) → xs.length ≤ ys.length
  | [], _, _, _ => Nat.zero_le _
  | x :: xs, ys, nd, h => by
    obtain ⟨h1, h2⟩ := List.nodup_cons.mp nd
    have hx := h x List.mem_cons_self
    have := nodup_len xs (ys.erase x) h2 fun y hy => (List.mem_erase_of_ne (fun e => h1 (by rw [← e]; exact hy))).mpr (h y (List.mem_cons_of_mem _ hy))
    rw [List.length_erase_of_mem hx] at this
    have := List.length_pos_of_mem hx
    rw [List.length_cons]
    omega
end Bfs
/-! words, as laws share them -/
namespace K68
open DL
abbrev Wd := List Nat
def sing (w : Wd) : List D := w.map fun c => D.str [c]
theorem str_len {w : Wd} (h : w.length < 1000) : bLen [.str w] = some (.fr (.int w.length)) := by
  have hL : w.length ≤ LIM := by have : LIM = 16777216 := rfl; omega
  exact if_pos hL
theorem str_at {w : Wd} {k : Nat} (hl : w.length < 1000) (hk : k < w.length) : index (.str w) (.int (k : Int)) = some (.str [w[k]]) := by
  show (if w.length ≤ LIM then (atI w (k : Int)).map fun c => D.str [c] else none) = _
  have hL : w.length ≤ LIM := by have : LIM = 16777216 := rfl; omega
  rw [if_pos hL, atI_nat _ _ (by omega) (by omega)]
  simp [List.getElem?_eq_getElem hk]
theorem add_str {a b : Wd} (h : a.length + b.length < 1000) : binop .add (.str a) (.str b) = some (.fr (.str (a ++ b))) := if_pos (by have : LIM = 16777216 := rfl; omega)
def optW : Option Wd → D
  | some v => .str v
  | none => .non
def toD (vs : List Wd) : D := .lst (vs.map D.str)
def OwFr (c : Cell) (d : D) : Prop := c = .fr d ∨ c = .ow d
def NoO2 (c : Cell) : Prop := c = .no ∨ (∃ d, c = .fr d) ∨ ∃ d, c = .ow d
theorem dints_str : ∀ (S : List Wd), S ≠ [] → dints (S.map D.str) = none
  | [], h => absurd rfl h
  | _ :: _, _ => rfl
theorem dstrs_map : ∀ ss : List Wd, dstrs (ss.map D.str) = some ss
  | [] => rfl
  | n :: ns => by
    show (dstrs (ns.map D.str)).map (n :: ·) = _
    rw [dstrs_map ns]; rfl
def LetP (L : Wd) (d : D) : Prop := ∃ c, d = .str [c] ∧ c ∈ L
theorem let_list {L : Wd} : ∀ {xs : List D}, (∀ x ∈ xs, LetP L x) → ∃ w : Wd, xs = w.map (fun c => D.str [c]) ∧ ∀ x ∈ w, x ∈ L
  | [], _ => ⟨[], rfl, by simp⟩
  | x :: xs, h => by
    obtain ⟨c, rfl, hc⟩ := h x List.mem_cons_self
    obtain ⟨w, rfl, hw⟩ := let_list fun y hy => h y (List.mem_cons_of_mem _ hy)
    refine ⟨c :: w, rfl, fun y hy => ?_⟩
    rcases List.mem_cons.mp hy with rfl | hy
    · exact hc
    · exact hw y hy
theorem joinT_nil : ∀ ss : List Wd, joinT [] ss = ss.flatten
  | [] => rfl
  | [p] => by simp [joinT]
  | p :: q :: r => by
    show p ++ ([] ++ joinT [] (q :: r)) = _
    rw [joinT_nil (q :: r)]
    simp
theorem join_ok (ss : List Wd) (h : (ss.map List.length).sum < 1000000) : bJoin1 [] (toD ss) = some (.fr (.str ss.flatten)) := by
  show (dstrs (ss.map D.str)).bind _ = _
  rw [dstrs_map]
  have h3 : (ss.map List.length).sum + ss.length * ([] : Wd).length ≤ LIM := by
    have : LIM = 16777216 := rfl
    simp
    omega
  show (if _ then _ else none) = _
  rw [if_pos h3, joinT_nil]
theorem flat_len (ss : List Wd) : (ss.map List.length).sum = ss.flatten.length := by rw [List.length_flatten]
theorem single_flat : ∀ w : Wd, (w.map fun c => [c]).flatten = w
  | [] => rfl
  | c :: w => by rw [List.map_cons, List.flatten_cons, single_flat w]; rfl
def bfS : Wd → Nat → Option Nat
  | [], _ => none
  | x :: w, c => if x = c then some 1 else (bfS w c).map (· + 1)
theorem b_loop (Γ : Ora) (w : Wd) (c : Nat) (at_ : D) (hl : w.length < 1000) : ∀ (m a : Nat) (c3 : Cell), NoD c3 → a + m = w.length →
    ∃ ρ', forL (.name 3) (fb1_0 Γ) ((List.range' a m).map fun k : Nat => D.int (k : Int)) [.fr (.str w), .fr (.str [c]), .fr at_, c3] = (match bfS (w.drop a) c with | some j => .ok (.ret (.fr (.int ((a + j : Nat) : Int)))) ρ' | none => .ok .next ρ')
  | 0, a, c3, h3, hm => by
    have : w.drop a = [] := List.drop_eq_nil_of_le (by omega)
    rw [this]
    exact ⟨_, rfl⟩
  | m + 1, a, c3, h3, hm => by
    have ha : a < w.length := by omega
    have st : storeS (.name 3) (.int a) [.fr (.str w), .fr (.str [c]), .fr at_, c3] = .ok .next [.fr (.str w), .fr (.str [c]), .fr at_, .fr (.int a)] := by
      rcases h3 with rfl | ⟨y, rfl⟩ <;> rfl
    have i1 := str_at hl ha
    have c2 : sCmp .eq (ov (sIdx (oVar 0) (oVar 3))) (oVar 1) [.fr (.str w), .fr (.str [c]), .fr at_, .fr (.int a)] = .ok (decide (w[a] = c)) [.fr (.str w), .fr (.str [c]), .fr at_, .fr (.int a)] :=
      s2_ok (ov_ok (s2_ok (f := fun d e => (index d e).map Cell.fr) (oVar_ok (i := 0) (d := .str w) rfl) (oVar_ok (i := 3) (d := .int a) rfl) rfl rfl (by rw [i1]; rfl)) rfl) (oVar_ok (i := 1) (d := .str [c]) rfl) rfl rfl (by
        show some (decide ([w[a]] = [c])) = _
        congr 1
        rw [Bool.eq_iff_iff]
        simp)
    rw [List.range'_succ, List.map_cons, List.drop_eq_getElem_cons ha]
    unfold bfS
    by_cases h : w[a] = c
    · rw [decide_eq_true h] at c2
      rw [if_pos h]
      refine ⟨[.fr (.str w), .fr (.str [c]), .fr at_, .fr (.int a)], forL_ret st ((if_true' c2).trans ?_)⟩
      rfl
    · rw [decide_eq_false h] at c2
      rw [if_neg h]
      obtain ⟨ρ', q⟩ := b_loop Γ w c at_ hl m (a + 1) (.fr (.int a)) (.inr ⟨_, rfl⟩) (by omega)
      have hb : fb1_0 Γ [.fr (.str w), .fr (.str [c]), .fr at_, .fr (.int a)] = .ok .next [.fr (.str w), .fr (.str [c]), .fr at_, .fr (.int a)] := (if_false' c2).trans rfl
      refine ⟨ρ', (forL_next st hb).trans ?_⟩
      rw [q]
      cases bfS (w.drop (a + 1)) c with
      | none => rfl
      | some j =>
        show R.ok (Flow.ret (Cell.fr (.int ((a + 1 + j : Nat) : Int)))) _ = R.ok (Flow.ret (Cell.fr (.int ((a + (j + 1) : Nat) : Int)))) _
        rw [show a + 1 + j = a + (j + 1) from by omega]
def optN : Option Nat → D
  | some i => .int (i : Int)
  | none => .non
theorem c_behind (n : Nat) (w : Wd) (c a : Nat) (hl : w.length < 1000) (ha : a ≤ w.length) : callF fns (n + 1) 1 [.fr (.str w), .fr (.str [c]), .fr (.int a)] = .ok (.fr (optN ((bfS (w.drop a) c).map (a + ·)))) [] := by
  obtain ⟨ρ', q⟩ := b_loop (callF fns n) w c (.int a) hl (w.length - a) a .no (.inl rfl) (by omega)
  have it : iRange2 (oVar 2) (ov (sB bLen (oCons (oVar 0) (oNil)))) [.fr (.str w), .fr (.str [c]), .fr (.int a), .no] = .ok ((List.range' a (w.length - a)).map fun k : Nat => D.int (k : Int)) [.fr (.str w), .fr (.str [c]), .fr (.int a), .no] := by
    refine s2_ok (oVar_ok (d := .int a) rfl) (ov_ok (sB1_var (f := bLen) (i := 0) (d := .str w) rfl (str_len hl)) rfl) rfl rfl ?_
    have b : (-(2 ^ 62) ≤ (a : Int) ∧ (a : Int) < 2 ^ 62) ∧ -(2 ^ 62) ≤ (w.length : Int) ∧ (w.length : Int) < 2 ^ 62 := by omega
    show (if (-(2 ^ 62) ≤ (a : Int) ∧ (a : Int) < 2 ^ 62) ∧ -(2 ^ 62) ≤ (w.length : Int) ∧ (w.length : Int) < 2 ^ 62 then some (rng a ((w.length : Int) - a).toNat) else none) = _
    rw [if_pos b]
    congr 1
    unfold rng
    rw [List.range'_eq_map_range, List.map_map]
    rw [show ((w.length : Int) - a).toNat = w.length - a from by omega]
    refine List.map_congr_left fun k _ => ?_
    show D.int ((a : Int) + k) = D.int ((a + k : Nat) : Int)
    simp
  rw [call_eq n 1 _ _ rfl]
  have p1 : sFor (.name 3) (iRange2 (oVar 2) (ov (sB bLen (oCons (oVar 0) (oNil))))) (fb1_0 (callF fns n)) [.fr (.str w), .fr (.str [c]), .fr (.int a), .no] = (match bfS (w.drop a) c with | some j => .ok (.ret (.fr (.int ((a + j : Nat) : Int)))) ρ' | none => .ok .next ρ') := by
    unfold sFor bind'
    rw [it]
    exact q
  cases hb : bfS (w.drop a) c with
  | none =>
    rw [hb] at p1
    have hh : fb1 (callF fns n) [.fr (.str w), .fr (.str [c]), .fr (.int a), .no] = .ok (.ret (.fr .non)) ρ' := by
      unfold fb1
      exact seq_to p1 rfl
    exact run_ret rfl hh rfl rfl
  | some j =>
    rw [hb] at p1
    have hh : fb1 (callF fns n) [.fr (.str w), .fr (.str [c]), .fr (.int a), .no] = .ok (.ret (.fr (.int ((a + j : Nat) : Int)))) ρ' := by
      unfold fb1
      exact seq_ret p1
    exact run_ret rfl hh rfl rfl
theorem bf_sub : ∀ (u : Wd) (c : Nat), match bfS u c with
    | some j => j ≤ u.length ∧ ∀ x : Wd, (c :: x).Sublist u ↔ x.Sublist (u.drop j)
    | none => ∀ x : Wd, ¬ (c :: x).Sublist u
  | [], c => by
    show ∀ x : Wd, ¬ (c :: x).Sublist []
    intro x h
    simp at h
  | y :: u, c => by
    unfold bfS
    by_cases h : y = c
    · rw [if_pos h]
      subst h
      exact ⟨by simp, fun x => by rw [List.cons_sublist_cons]; rfl⟩
    · rw [if_neg h]
      have ih := bf_sub u c
      have sk : ∀ x : Wd, (c :: x).Sublist (y :: u) ↔ (c :: x).Sublist u := fun x => by
        rw [List.sublist_cons_iff]
        constructor
        · rintro (h1 | ⟨r, e, _⟩)
          · exact h1
          · injection e with e1 _
            exact absurd e1.symm h
        · exact .inl
      cases hb : bfS u c with
      | none =>
        rw [hb] at ih
        exact fun x z => ih x ((sk x).mp z)
      | some j =>
        rw [hb] at ih
        refine ⟨by have := ih.1; simp; omega, fun x => ?_⟩
        rw [sk, ih.2 x]
        rfl
theorem rng_nat (m : Nat) : rng 0 m = (List.range' 0 m).map fun k : Nat => D.int (k : Int) := by
  unfold rng
  rw [List.range_eq_range']
  refine List.map_congr_left fun k _ => ?_
  rw [Int.zero_add]
def ch (L : Wd) (v : Wd) : List Wd := L.map fun l => v ++ [l]
def lev (L : Wd) : Nat → List Wd
  | 0 => [[]]
  | n + 1 => (lev L n).flatMap (ch L)
/-- all words with so many letters more behind p, in order -/
def ext (L : Wd) : Wd → Nat → List Wd
  | p, 0 => [p]
  | p, n + 1 => L.flatMap fun l => ext L (p ++ [l]) n
theorem ext_lev (L : Wd) : ∀ (n : Nat) (p : Wd), ext L p (n + 1) = (ext L p n).flatMap (ch L)
  | 0, p => by
    show (L.flatMap fun l => [p ++ [l]]) = [p].flatMap (ch L)
    rw [List.flatMap_singleton]
    unfold ch
    induction L with
    | nil => rfl
    | cons l L ih => rw [List.flatMap_cons, ih]; rfl
  | n + 1, p => by
    show (L.flatMap fun l => ext L (p ++ [l]) (n + 1)) = (L.flatMap fun l => ext L (p ++ [l]) n).flatMap (ch L)
    rw [List.flatMap_assoc]
    congr 1
    funext l
    exact ext_lev L n (p ++ [l])
theorem lev_ext (L : Wd) : ∀ n, lev L n = ext L [] n
  | 0 => rfl
  | n + 1 => by rw [ext_lev, ← lev_ext L n]; rfl
theorem ext_mem (L : Wd) : ∀ (n : Nat) (p v : Wd), v ∈ ext L p n ↔ ∃ x : Wd, v = p ++ x ∧ x.length = n ∧ ∀ y ∈ x, y ∈ L
  | 0, p, v => by
    show v ∈ [p] ↔ _
    rw [List.mem_singleton]
    constructor
    · rintro rfl
      exact ⟨[], by simp, rfl, by simp⟩
    · rintro ⟨x, rfl, h, _⟩
      rw [List.length_eq_zero_iff.mp h, List.append_nil]
  | n + 1, p, v => by
    show v ∈ L.flatMap _ ↔ _
    rw [List.mem_flatMap]
    constructor
    · rintro ⟨l, hl, h⟩
      obtain ⟨x, rfl, h2, h3⟩ := (ext_mem L n (p ++ [l]) v).mp h
      refine ⟨l :: x, by simp, by simp [h2], fun y hy => ?_⟩
      rcases List.mem_cons.mp hy with rfl | hy
      · exact hl
      · exact h3 y hy
    · rintro ⟨x, rfl, h2, h3⟩
      cases x with
      | nil => cases h2
      | cons l x =>
        refine ⟨l, h3 l List.mem_cons_self, (ext_mem L n (p ++ [l]) _).mpr ⟨x, by simp, by simpa using h2, fun y hy => h3 y (List.mem_cons_of_mem _ hy)⟩⟩
theorem lev_mem (L : Wd) (n : Nat) (v : Wd) : v ∈ lev L n ↔ v.length = n ∧ ∀ y ∈ v, y ∈ L := by
  rw [lev_ext, ext_mem]
  constructor
  · rintro ⟨x, rfl, h⟩
    simpa using h
  · intro h
    exact ⟨v, by simp, h⟩
/-- .. is not a piece -/
def Ws (L : Wd) : Nat → List Wd
  | 0 => [[]]
  | n + 1 => Ws L n ++ lev L (n + 1)
theorem Ws_ch (L : Wd) : ∀ n, Ws L (n + 1) = [] :: (Ws L n).flatMap (ch L)
  | 0 => rfl
  | n + 1 => by
    show Ws L (n + 1) ++ (lev L (n + 1)).flatMap (ch L) = [] :: (Ws L n ++ lev L (n + 1)).flatMap (ch L)
    rw [Ws_ch L n, List.flatMap_append]
    rfl
theorem Ws_mem (L : Wd) : ∀ (n : Nat) (v : Wd), v ∈ Ws L n ↔ v.length ≤ n ∧ ∀ y ∈ v, y ∈ L
  | 0, v => by
    show v ∈ [[]] ↔ _
    rw [List.mem_singleton]
    constructor
    · rintro rfl
      simp
    · rintro ⟨h, _⟩
      exact List.length_eq_zero_iff.mp (by omega)
  | n + 1, v => by
    show v ∈ Ws L n ++ lev L (n + 1) ↔ _
    rw [List.mem_append, Ws_mem L n, lev_mem]
    constructor
    · rintro (⟨h, h'⟩ | ⟨h, h'⟩)
      · exact ⟨by omega, h'⟩
      · exact ⟨by omega, h'⟩
    · rintro ⟨h, h'⟩
      by_cases e : v.length = n + 1
      · exact .inr ⟨e, h'⟩
      · exact .inl ⟨by omega, h'⟩
theorem sum_rep : ∀ n a : Nat, (List.replicate n a).sum = n * a
  | 0, a => by simp
  | n + 1, a => by rw [List.replicate_succ, List.sum_cons, sum_rep n a, Nat.succ_mul]; omega
theorem lev_len (L : Wd) (hL : L.length ≤ 3) : ∀ n, (lev L n).length ≤ 3 ^ n
  | 0 => Nat.le_refl _
  | n + 1 => by
    have ih := lev_len L hL n
    show ((lev L n).flatMap (ch L)).length ≤ _
    rw [List.length_flatMap]
    have : ((lev L n).map fun v => (ch L v).length) = (lev L n).map fun _ => L.length := by
      refine List.map_congr_left fun v _ => ?_
      simp [ch]
    rw [this, List.map_const', sum_rep, Nat.pow_succ]
    show (lev L n).length * L.length ≤ _
    exact Nat.mul_le_mul ih hL
theorem pow3 : ∀ {n m : Nat}, n ≤ m → 3 ^ n ≤ 3 ^ m := fun h => Nat.pow_le_pow_right (by omega) h
theorem Ws_len (L : Wd) (hL : L.length ≤ 3) : ∀ n, (Ws L n).length ≤ (n + 1) * 3 ^ n
  | 0 => by simp [Ws]
  | n + 1 => by
    show (Ws L n ++ lev L (n + 1)).length ≤ _
    rw [List.length_append]
    have h1 := Ws_len L hL n
    have h2 := lev_len L hL (n + 1)
    have h3 : 3 ^ n ≤ 3 ^ (n + 1) := pow3 (by omega)
    have h4 : (n + 1) * 3 ^ n ≤ (n + 1) * 3 ^ (n + 1) := Nat.mul_le_mul_left _ h3
    have h5 : (n + 1 + 1) * 3 ^ (n + 1) = (n + 1) * 3 ^ (n + 1) + 3 ^ (n + 1) := by rw [Nat.succ_mul]
    omega
def wE (L : Wd) (N : D) (c2 c3 c4 c5 c6 : Cell) : Env := [.fr (.str L), .fr N, c2, c3, c4, c5, c6, .no]
theorem wo_in (Γ : Ora) (L : Wd) (hL : L.length ≤ 3) (N : D) (c2 c3 c4 : Cell) : ∀ (vs acc : List Wd) (c6 : Cell), NoD c6 → (∀ v ∈ vs, v.length < 100) → acc.length + 3 * vs.length < 10000000 →
    ∃ d6, NoD d6 ∧ forL (.name 6) (fb11_1 Γ) (vs.map D.str) (wE L N c2 c3 c4 (.ow (toD acc)) c6) = .ok .next (wE L N c2 c3 c4 (.ow (toD (acc ++ vs.flatMap (ch L)))) d6)
  | [], acc, c6, h6, _, _ => ⟨c6, h6, by simp [forL, pure', List.flatMap_nil]⟩
  | v :: vs, acc, c6, h6, hv, hl => by
    have hLM : LIM = 16777216 := rfl
    rw [List.length_cons] at hl
    have st : storeS (.name 6) (.str v) (wE L N c2 c3 c4 (.ow (toD acc)) c6) = .ok .next (wE L N c2 c3 c4 (.ow (toD acc)) (.fr (.str v))) := by
      rcases h6 with rfl | ⟨y, rfl⟩ <;> rfl
    have m := comp_map (i := 7) (it := iSeq (fz (sVar 0))) (elt := fb11_0 Γ) (g := fun d => match d with | .str [c] => .str (v ++ [c]) | d => d) (ρ := wE L N c2 c3 c4 (.ow (toD acc)) (.fr (.str v))) (ρ1 := wE L N c2 c3 c4 (.ow (toD acc)) (.fr (.str v))) (ds := sing L) (c := .no)
      rfl rfl (.inl rfl) (by simp [sing]; omega)
      (fun d hd => by
        obtain ⟨c, _, rfl⟩ := List.mem_map.mp hd
        exact fz_ok (s2_ok (f := binop .add) (oVar_ok (i := 6) (d := .str v) rfl) (oVar_ok (i := 7) (d := .str [c]) rfl) rfl rfl (add_str (by have := hv v List.mem_cons_self; simp; omega))) rfl)
    have e : (sing L).map (fun d => match d with | .str [c] => .str (v ++ [c]) | d => d) = (ch L v).map D.str := by
      unfold sing ch
      rw [List.map_map, List.map_map]
      rfl
    rw [e] at m
    have ad : binop .add (toD acc) (.lst ((ch L v).map D.str)) = some (.ow (toD (acc ++ ch L v))) := by
      have h : (acc.map D.str).length + ((ch L v).map D.str).length ≤ LIM := by simp [ch]; omega
      have e2 : (acc ++ ch L v).map D.str = acc.map D.str ++ (ch L v).map D.str := by simp
      unfold toD
      rw [e2]
      exact if_pos h
    have body : fb11_1 Γ (wE L N c2 c3 c4 (.ow (toD acc)) (.fr (.str v))) = .ok .next (wE L N c2 c3 c4 (.ow (toD (acc ++ ch L v))) (.fr (.str v))) :=
      set_ok (s2_ok (f := binop .add) (oVar_ok (i := 5) (d := toD acc) rfl) (ov_ok m rfl) rfl rfl ad) rfl
    obtain ⟨d6, k1, k2⟩ := wo_in Γ L hL N c2 c3 c4 vs (acc ++ ch L v) (.fr (.str v)) (.inr ⟨_, rfl⟩) (fun u hu => hv u (List.mem_cons_of_mem _ hu)) (by simp [ch]; omega)
    refine ⟨d6, k1, (forL_next st body).trans ?_⟩
    rw [k2, List.flatMap_cons, List.append_assoc]
theorem wo_turn (Γ : Ora) (L : Wd) (hL : L.length ≤ 3) (N : D) (j : Nat) (hj : j < 11) (c3 c4 c5 c6 : Cell) (h3 : OwFr c3 (toD (lev L j))) (h5 : NoO2 c5) (h6 : NoD c6) :
    ∃ d5 d6, NoO2 d5 ∧ NoD d6 ∧ fb11_2 Γ (wE L N (.ow (toD (Ws L j))) c3 c4 c5 c6) = .ok .next (wE L N (.ow (toD (Ws L (j + 1)))) (.fr (toD (lev L (j + 1)))) c4 d5 d6) := by
  have hLM : LIM = 16777216 := rfl
  have hb : 3 ^ (j + 1) ≤ 3 ^ 11 := pow3 (by omega)
  have hb2 : 3 ^ j ≤ 3 ^ 11 := pow3 (by omega)
  have h11 : 3 ^ 11 = 177147 := rfl
  have l1 := lev_len L hL j
  have l2 := lev_len L hL (j + 1)
  have l3 := Ws_len L hL j
  have l4 : (j + 1) * 3 ^ j ≤ 11 * 177147 := Nat.mul_le_mul (by omega) (by omega)
  have p0 : sSet 5 (sLst (sNil)) (wE L N (.ow (toD (Ws L j))) c3 c4 c5 c6) = .ok .next (wE L N (.ow (toD (Ws L j))) c3 c4 (.ow (toD [])) c6) := by
    rcases h5 with rfl | ⟨y, rfl⟩ | ⟨y, rfl⟩ <;> rfl
  obtain ⟨d6, k1, k2⟩ := wo_in Γ L hL N (.ow (toD (Ws L j))) (.fr (toD (lev L j))) c4 (lev L j) [] c6 h6 (fun v hv => by have := ((lev_mem L j v).mp hv).1; omega) (by simp; omega)
  rw [List.nil_append] at k2
  have p1 : sFor (.name 6) (iSeq (fz (sVar 3))) (fb11_1 Γ) (wE L N (.ow (toD (Ws L j))) c3 c4 (.ow (toD [])) c6) = .ok .next (wE L N (.ow (toD (Ws L j))) (.fr (toD (lev L j))) c4 (.ow (toD ((lev L j).flatMap (ch L)))) d6) := by
    refine (for_ok (iSeq_ok (d := toD (lev L j)) (ρ1 := wE L N (.ow (toD (Ws L j))) (.fr (toD (lev L j))) c4 (.ow (toD [])) c6) ?_ rfl)).trans k2
    rcases h3 with rfl | rfl <;> rfl
  have ad : binop .add (toD (Ws L j)) (toD ((lev L j).flatMap (ch L))) = some (.ow (toD (Ws L (j + 1)))) := by
    have h : ((Ws L j).map D.str).length + (((lev L j).flatMap (ch L)).map D.str).length ≤ LIM := by
      rw [List.length_map, List.length_map]
      show (Ws L j).length + (lev L (j + 1)).length ≤ _
      omega
    have e2 : (Ws L (j + 1)).map D.str = (Ws L j).map D.str ++ ((lev L j).flatMap (ch L)).map D.str := by
      show (Ws L j ++ (lev L j).flatMap (ch L)).map D.str = _
      rw [List.map_append]
    unfold toD
    rw [e2]
    exact if_pos h
  have p2 : sSet 2 (sBin .add (oVar 2) (oVar 5)) (wE L N (.ow (toD (Ws L j))) (.fr (toD (lev L j))) c4 (.ow (toD ((lev L j).flatMap (ch L)))) d6) = .ok .next (wE L N (.ow (toD (Ws L (j + 1)))) (.fr (toD (lev L j))) c4 (.ow (toD ((lev L j).flatMap (ch L)))) d6) :=
    set_ok (s2_ok (f := binop .add) (oVar_ok (d := toD (Ws L j)) rfl) (oVar_ok (d := toD ((lev L j).flatMap (ch L))) rfl) rfl rfl ad) rfl
  refine ⟨.fr (toD (lev L (j + 1))), d6, .inr (.inl ⟨_, rfl⟩), k1, ?_⟩
  unfold fb11_2
  exact seq_to p0 (seq_to p1 (seq_to p2 rfl))
theorem wo_loop (Γ : Ora) (L : Wd) (hL : L.length ≤ 3) (N : D) : ∀ (m j : Nat) (c3 c4 c5 c6 : Cell), OwFr c3 (toD (lev L j)) → NoD c4 → NoO2 c5 → NoD c6 → j + m ≤ 11 →
    ∃ d3 d4 d5 d6, forL (.name 4) (fb11_2 Γ) ((List.range' j m).map fun k : Nat => D.int (k : Int)) (wE L N (.ow (toD (Ws L j))) c3 c4 c5 c6) = .ok .next (wE L N (.ow (toD (Ws L (j + m)))) d3 d4 d5 d6)
  | 0, j, c3, c4, c5, c6, _, _, _, _, _ => ⟨c3, c4, c5, c6, rfl⟩
  | m + 1, j, c3, c4, c5, c6, h3, h4, h5, h6, hj => by
    have st : storeS (.name 4) (.int j) (wE L N (.ow (toD (Ws L j))) c3 c4 c5 c6) = .ok .next (wE L N (.ow (toD (Ws L j))) c3 (.fr (.int j)) c5 c6) := by
      rcases h4 with rfl | ⟨y, rfl⟩ <;> rfl
    obtain ⟨d5, d6, k5, k6, q⟩ := wo_turn Γ L hL N j (by omega) c3 (.fr (.int j)) c5 c6 h3 h5 h6
    obtain ⟨e3, e4, e5, e6, q2⟩ := wo_loop Γ L hL N m (j + 1) (.fr (toD (lev L (j + 1)))) (.fr (.int j)) d5 d6 (.inl rfl) (.inr ⟨_, rfl⟩) k5 k6 (by omega)
    rw [List.range'_succ, List.map_cons]
    refine ⟨e3, e4, e5, e6, (forL_next st q).trans ?_⟩
    rw [q2, show j + 1 + m = j + (m + 1) from by omega]
/-- _law_words -/
theorem c_words (n : Nat) (L : Wd) (hL : L.length ≤ 3) (N : Nat) (hN : N ≤ 11) : callF fns (n + 1) 11 [.fr (.str L), .fr (.int N)] = .ok (.ow (toD (Ws L N))) [] := by
  obtain ⟨d3, d4, d5, d6, q⟩ := wo_loop (callF fns n) L hL (.int N) N 0 (.ow (toD [[]])) .no .no .no (.inr rfl) (.inl rfl) (.inl rfl) (.inl rfl) (by omega)
  rw [Nat.zero_add] at q
  rw [call_eq n 11 _ _ rfl]
  have it := it_nat (oVar_ok (i := 1) (ρ := wE L (.int N) (.ow (toD [[]])) (.ow (toD [[]])) .no .no .no) (d := .int N) rfl) rfl (by omega)
  rw [rng_nat] at it
  have p1 : sFor (.name 4) (iRange1 (oVar 1)) (fb11_2 (callF fns n)) (wE L (.int N) (.ow (toD [[]])) (.ow (toD [[]])) .no .no .no) = .ok .next (wE L (.int N) (.ow (toD (Ws L N))) d3 d4 d5 d6) := (for_ok it).trans q
  have hh : fb11 (callF fns n) (wE L (.int N) .no .no .no .no .no) = .ok (.ret (.ow (toD (Ws L N)))) (wE L (.int N) .no d3 d4 d5 d6) := by
    unfold fb11
    exact seq_to (ρ1 := wE L (.int N) (.ow (toD [[]])) .no .no .no .no) rfl (seq_to (ρ1 := wE L (.int N) (.ow (toD [[]])) (.ow (toD [[]])) .no .no .no) rfl (seq_to p1 (retVar_ow rfl)))
  exact run_r hh rfl rfl rfl rfl
/-! ### _law_left -/
def dbl (S : List Wd) (c : Nat) : List Wd := S ++ S.map fun v => v ++ [c]
def Sb (w : Wd) : List Wd := w.foldl dbl [[]]
theorem dbl_len : ∀ (w : Wd) (S : List Wd), (w.foldl dbl S).length = S.length * 2 ^ w.length
  | [], S => by simp
  | c :: w, S => by
    rw [List.foldl_cons, dbl_len w]
    unfold dbl
    rw [List.length_append, List.length_map, List.length_cons, Nat.pow_succ, Nat.mul_comm (2 ^ w.length) 2, ← Nat.mul_assoc]
    congr 1
    omega
theorem sub_snoc (w : Wd) (c : Nat) (v : Wd) : v.Sublist (w ++ [c]) ↔ v.Sublist w ∨ ∃ u : Wd, v = u ++ [c] ∧ u.Sublist w := by
  rw [List.sublist_append_iff]
  constructor
  · rintro ⟨l1, l2, rfl, h1, h2⟩
    cases l2 with
    | nil => exact .inl (by simpa using h1)
    | cons x r =>
      have := h2.length_le
      have hr : r = [] := by simpa using this
      subst hr
      have hx : x = c := by simpa using h2
      subst hx
      exact .inr ⟨l1, rfl, h1⟩
  · rintro (h | ⟨u, rfl, h⟩)
    · exact ⟨v, [], by simp, h, by simp⟩
    · exact ⟨u, [c], rfl, h, List.Sublist.refl _⟩
theorem dbl_mem : ∀ (w x : Wd) (S : List Wd), (∀ v, v ∈ S ↔ v.Sublist x) → ∀ v, v ∈ w.foldl dbl S ↔ v.Sublist (x ++ w)
  | [], x, S, h, v => by rw [List.append_nil]; exact h v
  | c :: w, x, S, h, v => by
    rw [List.foldl_cons, dbl_mem w (x ++ [c]) (dbl S c) (fun u => by
      unfold dbl
      rw [List.mem_append, sub_snoc, h u, List.mem_map]
      constructor
      · rintro (h1 | ⟨y, h1, rfl⟩)
        · exact .inl h1
        · exact .inr ⟨y, rfl, (h y).mp h1⟩
      · rintro (h1 | ⟨y, rfl, h1⟩)
        · exact .inl h1
        · exact .inr ⟨y, (h y).mpr h1, rfl⟩) v]
    simp
theorem Sb_mem (w v : Wd) : v ∈ Sb w ↔ v.Sublist w := by
  have := dbl_mem w [] [[]] (fun v => by simp) v
  simpa [Sb] using this
theorem le_loop (Γ : Ora) (W : D) : ∀ (w : Wd) (S : List Wd) (c2 : Cell), NoD c2 → S.length * 2 ^ w.length < 4000 → (∀ v ∈ S, v.length + w.length < 100) →
    ∃ d2, forL (.name 2) (fb12_1 Γ) (sing w) [.fr W, .ow (toD S), c2, .no] = .ok .next [.fr W, .ow (toD (w.foldl dbl S)), d2, .no]
  | [], S, c2, h2, _, _ => ⟨c2, rfl⟩
  | c :: w, S, c2, h2, hl, hv => by
    have hLM : LIM = 16777216 := rfl
    have st : storeS (.name 2) (.str [c]) [.fr W, .ow (toD S), c2, .no] = .ok .next [.fr W, .ow (toD S), .fr (.str [c]), .no] := by
      rcases h2 with rfl | ⟨y, rfl⟩ <;> rfl
    have hs : S.length < 4000 := by
      have : 1 ≤ 2 ^ (c :: w).length := Nat.one_le_two_pow
      have h3 : S.length * 1 ≤ S.length * 2 ^ (c :: w).length := Nat.mul_le_mul_left _ this
      omega
    have m := comp_map (i := 3) (it := iSeq (fz (sVar 1))) (elt := fb12_0 Γ) (g := fun d => match d with | .str v => .str (v ++ [c]) | d => d) (ρ := [.fr W, .ow (toD S), .fr (.str [c]), .no]) (ρ1 := [.fr W, .fr (toD S), .fr (.str [c]), .no]) (ds := S.map D.str) (c := .no)
      rfl rfl (.inl rfl) (by simp; omega)
      (fun d hd => by
        obtain ⟨v, hv1, rfl⟩ := List.mem_map.mp hd
        have := hv v hv1
        rw [List.length_cons] at this
        exact fz_ok (s2_ok (f := binop .add) (oVar_ok (i := 3) (d := .str v) rfl) (oVar_ok (i := 2) (d := .str [c]) rfl) rfl rfl (add_str (by simp; omega))) rfl)
    have e : (S.map D.str).map (fun d => match d with | .str v => .str (v ++ [c]) | d => d) = (S.map fun v => v ++ [c]).map D.str := by
      rw [List.map_map, List.map_map]
      rfl
    rw [e] at m
    have ad : binop .add (toD S) (.lst ((S.map fun v => v ++ [c]).map D.str)) = some (.ow (toD (dbl S c))) := by
      have h : (S.map D.str).length + ((S.map fun v => v ++ [c]).map D.str).length ≤ LIM := by simp; omega
      have e2 : (dbl S c).map D.str = S.map D.str ++ (S.map fun v => v ++ [c]).map D.str := by unfold dbl; rw [List.map_append]
      unfold toD
      rw [e2]
      exact if_pos h
    have sm : s2 (oVar 1) (ov (sComp [3] (.name 3) (iSeq (fz (sVar 1))) sYes (fb12_0 Γ))) (binop .add) [.fr W, .ow (toD S), .fr (.str [c]), .no] = .ok (.ow (toD (dbl S c))) [.fr W, .fr (toD S), .fr (.str [c]), .no] := by
      have o1 := oVar_ok (i := 1) (ρ := [.fr W, .ow (toD S), .fr (.str [c]), .no]) (d := toD S) rfl
      have o2 := ov_ok m rfl
      unfold s2
      simp only [bind', o1, o2, rdO]
      have g1 : getO [.fr W, .fr (toD S), .fr (.str [c]), .no] (.slot 1) = some (toD S) := rfl
      have g2 : getO [.fr W, .fr (toD S), .fr (.str [c]), .no] (.val (.lst ((S.map fun v => v ++ [c]).map D.str))) = some (.lst ((S.map fun v => v ++ [c]).map D.str)) := rfl
      simp only [g1, g2, ad, opt]
    have body : fb12_1 Γ [.fr W, .ow (toD S), .fr (.str [c]), .no] = .ok .next [.fr W, .ow (toD (dbl S c)), .fr (.str [c]), .no] := set_ok sm rfl
    obtain ⟨d2, q⟩ := le_loop Γ W w (dbl S c) (.fr (.str [c])) (.inr ⟨_, rfl⟩) (by
      have : (dbl S c).length = S.length * 2 := by unfold dbl; rw [List.length_append, List.length_map]; omega
      rw [this, Nat.mul_assoc, ← Nat.pow_succ']
      exact hl) (fun v hv1 => by
      unfold dbl at hv1
      rcases List.mem_append.mp hv1 with h | h
      · have := hv v h; rw [List.length_cons] at this; omega
      · obtain ⟨u, hu, rfl⟩ := List.mem_map.mp h
        have := hv u hu
        rw [List.length_cons] at this
        simp
        omega)
    exact ⟨d2, (forL_next st body).trans q⟩
def pcs (w : Wd) : List Wd := srt leS (ded (Sb w))
theorem pcs_mem (w v : Wd) : v ∈ pcs w ↔ v.Sublist w := by
  unfold pcs
  rw [(srt_perm leS _).mem_iff]
  have h : ∀ (xs acc : List Wd) (y : Wd), y ∈ xs.foldl ded1 acc ↔ y ∈ acc ∨ y ∈ xs := by
    intro xs
    induction xs with
    | nil => intro acc y; simp
    | cons x xs ih =>
      intro acc y
      rw [List.foldl_cons, ih]
      unfold ded1
      split
      · rename_i h
        rw [List.mem_cons]
        constructor
        · rintro (h1 | h1)
          · exact .inl h1
          · exact .inr (.inr h1)
        · rintro (h1 | rfl | h1)
          · exact .inl h1
          · exact .inl h
          · exact .inr h1
      · rw [List.mem_append, List.mem_singleton, List.mem_cons, or_assoc]
  have := h (Sb w) [] v
  unfold ded
  rw [this, Sb_mem]
  simp
/-- _law_left -/
theorem c_left (n : Nat) (w : Wd) (hw : w.length < 11) : callF fns (n + 1) 12 [.fr (.str w)] = .ok (.ow (toD (pcs w))) [] := by
  have h2 : 2 ^ w.length ≤ 2 ^ 10 := Nat.pow_le_pow_right (by omega) (by omega)
  have h3 : (2 : Nat) ^ 10 = 1024 := rfl
  obtain ⟨d2, q⟩ := le_loop (callF fns n) (.str w) w [[]] .no (.inl rfl) (by simp; omega) (by simp; omega)
  rw [call_eq n 12 _ _ rfl]
  have ne : Sb w ≠ [] := fun z => by
    have := (Sb_mem w []).mpr (List.nil_sublist _)
    rw [z] at this
    cases this
  have bs : bSortSet [toD (Sb w)] = some (.ow (toD (pcs w))) := by
    have hl : ((Sb w).map D.str).length < 4000 := by
      rw [List.length_map]
      unfold Sb
      rw [dbl_len]
      simp
      omega
    show (if ((Sb w).map D.str).length < 4000 then (match dints ((Sb w).map D.str) with | some ns => some (Cell.ow (.lst ((srt leI (ded ns)).map D.int))) | none => (dstrs ((Sb w).map D.str)).map fun ss => Cell.ow (.lst ((srt leS (ded ss)).map D.str))) else none) = _
    rw [if_pos hl, dints_str _ ne, dstrs_map]
    rfl
  have p1 : sFor (.name 2) (iSeq (fz (sVar 0))) (fb12_1 (callF fns n)) [.fr (.str w), .ow (toD [[]]), .no, .no] = .ok .next [.fr (.str w), .ow (toD (Sb w)), d2, .no] := (for_ok rfl).trans q
  have hh : fb12 (callF fns n) [.fr (.str w), .no, .no, .no] = .ok (.ret (.ow (toD (pcs w)))) [.fr (.str w), .ow (toD (Sb w)), d2, .no] := by
    unfold fb12
    exact seq_to (ρ1 := [.fr (.str w), .ow (toD [[]]), .no, .no]) rfl (seq_to p1 (sRet_ok (sB1_var (f := bSortSet) (d := toD (Sb w)) rfl bs)))
  exact run_r hh rfl rfl rfl rfl
end K68
/-! words that part, pieces: as laws share them -/
namespace K68
open DL Bfs
/-- where the first letter c behind i ends -/
def pos (w : Wd) (i c : Nat) : Option Nat := (bfS (w.drop i) c).map (i + ·)
theorem pos_sub (w : Wd) (i c : Nat) (hi : i ≤ w.length) : match pos w i c with
    | some j => j ≤ w.length ∧ ∀ x : Wd, (c :: x).Sublist (w.drop i) ↔ x.Sublist (w.drop j)
    | none => ∀ x : Wd, ¬ (c :: x).Sublist (w.drop i) := by
  have h := bf_sub (w.drop i) c
  unfold pos
  cases hb : bfS (w.drop i) c with
  | none => rw [hb] at h; exact h
  | some j =>
    rw [hb] at h
    obtain ⟨h1, h2⟩ := h
    rw [List.length_drop] at h1
    rw [List.drop_drop] at h2
    exact ⟨by show i + j ≤ w.length; omega, h2⟩
/-- where a piece ends -/
def run1 (w x : Wd) : Option Nat := x.foldl (fun o c => o.bind fun i => pos w i c) (some 0)
theorem run1_snoc (w x : Wd) (c : Nat) : run1 w (x ++ [c]) = (run1 w x).bind fun i => pos w i c := by
  unfold run1
  rw [List.foldl_append]
  rfl
theorem run1_from (w : Wd) : ∀ (x : Wd) (i : Nat), i ≤ w.length → match x.foldl (fun o c => o.bind fun i => pos w i c) (some i) with
    | some j => j ≤ w.length ∧ ∀ y : Wd, (x ++ y).Sublist (w.drop i) ↔ y.Sublist (w.drop j)
    | none => ∀ y : Wd, ¬ (x ++ y).Sublist (w.drop i)
  | [], i, hi => ⟨hi, fun y => by simp⟩
  | c :: x, i, hi => by
    have h := pos_sub w i c hi
    rw [List.foldl_cons]
    show match x.foldl _ (pos w i c) with | some j => _ | none => _
    cases hp : pos w i c with
    | none =>
      rw [hp] at h
      have : ∀ x : Wd, x.foldl (fun (o : Option Nat) c => o.bind fun i => pos w i c) none = none := fun x => by
        induction x with
        | nil => rfl
        | cons d x ih => exact ih
      rw [this]
      exact fun y => h (x ++ y)
    | some j =>
      rw [hp] at h
      have ih := run1_from w x j h.1
      cases hf : x.foldl (fun o c => o.bind fun i => pos w i c) (some j) with
      | none =>
        rw [hf] at ih
        exact fun y z => ih y ((h.2 (x ++ y)).mp z)
      | some k =>
        rw [hf] at ih
        exact ⟨ih.1, fun y => (h.2 (x ++ y)).trans (ih.2 y)⟩
theorem run1_some {w x : Wd} {i : Nat} (h : run1 w x = some i) : i ≤ w.length ∧ ∀ y : Wd, (x ++ y).Sublist w ↔ y.Sublist (w.drop i) := by
  have := run1_from w x 0 (Nat.zero_le _)
  unfold run1 at h
  rw [h] at this
  exact this
theorem run1_none {w x : Wd} (h : run1 w x = none) : ¬ x.Sublist w := by
  have := run1_from w x 0 (Nat.zero_le _)
  unfold run1 at h
  rw [h] at this
  simpa using this []
theorem run1_iff (w x : Wd) : (run1 w x).isSome = true ↔ x.Sublist w := by
  cases h : run1 w x with
  | none => simpa using run1_none h
  | some i =>
    have := (run1_some h).2 []
    simp at this
    simpa using this
/-- the pairs of places -/
def pair2 : Option Nat → Option Nat → Option (Nat × Nat)
  | some i, some j => some (i, j)
  | _, _ => none
def step2 (u v : Wd) (s : Nat × Nat) (c : Nat) : Option (Nat × Nat) := pair2 (pos u s.1 c) (pos v s.2 c)
def fnd2 (u v : Wd) (s : Nat × Nat) (c : Nat) : Bool := (pos u s.1 c).isNone != (pos v s.2 c).isNone
def both (u v x : Wd) : Option (Nat × Nat) := pair2 (run1 u x) (run1 v x)
theorem run_both (u v : Wd) : ∀ (k : Nat) (x : Wd), x.length = k → run (0, 0) (step2 u v) x = both u v x
  | 0, x, h => by
    have := List.length_eq_zero_iff.mp h
    subst this
    rfl
  | k + 1, x, h => by
    obtain ⟨z, e, rfl⟩ : ∃ z e, x = z ++ [e] := by
      rcases List.eq_nil_or_concat x with h1 | ⟨z, e, h1⟩
      · subst h1; simp at h
      · exact ⟨z, e, by simpa using h1⟩
    rw [run_snoc, run_both u v k z (by simpa using h)]
    unfold both
    rw [run1_snoc, run1_snoc]
    cases run1 u z with
    | none => rfl
    | some i =>
      cases run1 v z with
      | none =>
        show none = pair2 (pos u i e) none
        cases pos u i e <;> rfl
      | some j => rfl
/-- is a piece of just one -/
def parts (u v x : Wd) : Prop := ¬ (x.Sublist u ↔ x.Sublist v)
theorem parts_comm {u v x : Wd} : parts u v x ↔ parts v u x := by unfold parts; exact ⟨fun h q => h q.symm, fun h q => h q.symm⟩
theorem pos_isSome {w x : Wd} {i : Nat} (c : Nat) (h : run1 w x = some i) : (pos w i c).isNone = false ↔ (x ++ [c]).Sublist w := by
  have h1 := run1_iff w (x ++ [c])
  rw [run1_snoc, h] at h1
  rw [← h1]
  show _ ↔ (pos w i c).isSome = true
  cases pos w i c <;> simp
theorem both_some {u v x : Wd} {s : Nat × Nat} (h : both u v x = some s) : run1 u x = some s.1 ∧ run1 v x = some s.2 := by
  unfold both at h
  cases h1 : run1 u x with
  | none => rw [h1] at h; cases h
  | some i =>
    cases h2 : run1 v x with
    | none => rw [h1, h2] at h; cases h
    | some j =>
      rw [h1, h2] at h
      cases h
      exact ⟨rfl, rfl⟩
theorem fnd_iff {u v x : Wd} {s : Nat × Nat} (h : both u v x = some s) (c : Nat) : fnd2 u v s c = true ↔ parts u v (x ++ [c]) := by
  obtain ⟨h1, h2⟩ := both_some h
  unfold parts
  rw [← pos_isSome c h1, ← pos_isSome c h2]
  unfold fnd2
  cases (pos u s.1 c).isNone <;> cases (pos v s.2 c).isNone <;> simp
/-- the first part of a word that parts -/
theorem first_part (u v : Wd) : ∀ (k : Nat) (y : Wd), y.length = k → parts u v y → ∃ z d s, both u v z = some s ∧ parts u v (z ++ [d]) ∧ (∃ r, y = (z ++ [d]) ++ r)
  | 0, y, h, hp => by
    have := List.length_eq_zero_iff.mp h
    subst this
    exact (hp (by simp)).elim
  | k + 1, y, h, hp => by
    obtain ⟨z, e, rfl⟩ : ∃ z e, y = z ++ [e] := by
      rcases List.eq_nil_or_concat y with h1 | ⟨z, e, h1⟩
      · subst h1; simp at h
      · exact ⟨z, e, by simpa using h1⟩
    by_cases hz : parts u v z
    · obtain ⟨z', d, s, h1, h2, r, h3⟩ := first_part u v k z (by simpa using h) hz
      exact ⟨z', d, s, h1, h2, r ++ [e], by rw [h3]; simp⟩
    · have hz' : z.Sublist u ↔ z.Sublist v := Classical.byContradiction hz
      have sub : ∀ w : Wd, (z ++ [e]).Sublist w → z.Sublist w := fun w hw => (List.sublist_append_left z [e]).trans hw
      by_cases hu : z.Sublist u
      · have hv := hz'.mp hu
        obtain ⟨i, hi⟩ := Option.isSome_iff_exists.mp ((run1_iff u z).mpr hu)
        obtain ⟨j, hj⟩ := Option.isSome_iff_exists.mp ((run1_iff v z).mpr hv)
        refine ⟨z, e, (i, j), ?_, hp, [], by simp⟩
        unfold both
        rw [hi, hj]
        rfl
      · exact (hp ⟨fun q => (hu (sub u q)).elim, fun q => (hu (hz'.mpr (sub v q))).elim⟩).elim
/-- the least word that parts -/
def Least (L u v : Wd) : Option Wd → Prop
  | some w => parts u v w ∧ (∀ x ∈ w, x ∈ L) ∧ ∀ y : Wd, (∀ x ∈ y, x ∈ L) → parts u v y → leO w y = true
  | none => ∀ y : Wd, (∀ x ∈ y, x ∈ L) → ¬ parts u v y
theorem least_one {L u v : Wd} : ∀ {a b : Option Wd}, Least L u v a → Least L u v b → a = b
  | some a, some b, ha, hb => by rw [leO_anti (ha.2.2 b hb.2.1 hb.1) (hb.2.2 a ha.2.1 ha.1)]
  | some a, none, ha, hb => (hb a ha.2.1 ha.1).elim
  | none, some b, ha, hb => (ha b hb.2.1 hb.1).elim
  | none, none, _, _ => rfl
theorem least_comm {L u v : Wd} : ∀ {a : Option Wd}, Least L u v a → Least L v u a
  | some a, h => ⟨parts_comm.mp h.1, h.2.1, fun y hy hp => h.2.2 y hy (parts_comm.mpr hp)⟩
  | none, h => fun y hy hp => h y hy (parts_comm.mpr hp)
theorem run_eq (u v x : Wd) : run (0, 0) (step2 u v) x = both u v x := run_both u v _ x rfl
/-- it is found -/
theorem found_least {L u v : Wd} {done : List ((Nat × Nat) × Wd)} {cur : (Nat × Nat) × Wd} {rest : List ((Nat × Nat) × Wd)} {l1 : Wd} {c : Nat} (g : Mid L (0, 0) (step2 u v) (fnd2 u v) done cur rest l1) (hl : ∀ x ∈ L, x < c → x ∈ l1) (hc : c ∈ L) (hf : fnd2 u v cur.1 c = true) :
    Least L u v (some (cur.2 ++ [c])) := by
  obtain ⟨a1, a2⟩ := g.a cur (by simp)
  rw [run_eq] at a1
  refine ⟨(fnd_iff a1 c).mp hf, fun x hx => ?_, fun y hy hp => ?_⟩
  · rcases List.mem_append.mp hx with hx | hx
    · exact a2 x hx
    · simp at hx; subst hx; exact hc
  · obtain ⟨z, d, s, h1, h2, r, h3⟩ := first_part u v _ y rfl hp
    have hz : ∀ x ∈ z ++ [d], x ∈ L := fun x hx => hy x (by rw [h3]; exact List.mem_append_left _ hx)
    have := g.least hl (y := z) (d := d) (s := s) (fun x hx => hz x (List.mem_append_left _ hx)) (hz d (by simp)) (by rw [run_eq]; exact h1) ((fnd_iff h1 d).mpr h2)
    refine leO_trans this ?_
    rw [h3]
    cases r with
    | nil => simp [leO_refl]
    | cons e r => exact leO_or.mpr (.inl (len_lt (by simp)))
/-- nothing is found -/
theorem none_least {L u v : Wd} {done : List ((Nat × Nat) × Wd)} (g : Good L (0, 0) (step2 u v) (fnd2 u v) done []) : Least L u v none := by
  intro y hy hp
  obtain ⟨z, d, s, h1, h2, r, h3⟩ := first_part u v _ y rfl hp
  have hz : ∀ x ∈ z ++ [d], x ∈ L := fun x hx => hy x (by rw [h3]; exact List.mem_append_left _ hx)
  have := g.none (y := z) (d := d) (s := s) (fun x hx => hz x (List.mem_append_left _ hx)) (hz d (by simp)) (by rw [run_eq]; exact h1)
  rw [(fnd_iff h1 d).mpr h2] at this
  cases this
abbrev Ent := (Nat × Nat) × Wd
def entD (e : Ent) : D := .tup [.int e.1.1, .int e.1.2, .str e.2]
def keyS (s : Nat × Nat) : D := .tup [.int s.1, .int s.2]
def qD (q : List Ent) : D := .lst (q.map entD)
def mD (q : List Ent) : D := .dic (q.map fun e => (keyS e.1, .bl true))
theorem keyS_inj {s t : Nat × Nat} (h : keyS s = keyS t) : s = t := by
  obtain ⟨a, b⟩ := s
  obtain ⟨c, d⟩ := t
  unfold keyS at h
  injection h with h
  injection h with h1 h2
  injection h2 with h2 _
  injection h1 with h1
  injection h2 with h2
  have e1 : a = c := Int.ofNat.inj h1
  have e2 : b = d := Int.ofNat.inj h2
  rw [e1, e2]
theorem ask_m (q : List Ent) (s : Nat × Nat) : askable (q.map fun e => (keyS e.1, D.bl true)) (keyS s) = true := by
  unfold askable
  have h1 : keyT (keyS s) = true := rfl
  have h2 : ((q.map fun e => (keyS e.1, D.bl true)).all fun p => keyT p.1) = true := by
    rw [List.all_map, List.all_eq_true]
    exact fun e _ => rfl
  rw [h1, h2]
  simp
theorem any_m (s : Nat × Nat) : ∀ q : List Ent, ((q.map fun e => (keyS e.1, D.bl true)).any fun p => decide (p.1 = keyS s)) = decide (s ∈ q.map (·.1))
  | [] => rfl
  | e :: q => by
    rw [List.map_cons, List.any_cons, any_m s q, List.map_cons]
    show (decide (keyS e.1 = keyS s) || _) = _
    by_cases h : e.1 = s
    · rw [decide_eq_true (show keyS e.1 = keyS s by rw [h]), decide_eq_true (show s ∈ e.1 :: q.map (·.1) by rw [h]; exact List.mem_cons_self)]
      rfl
    · rw [decide_eq_false (fun z => h (keyS_inj z)), Bool.false_or, Bool.eq_iff_iff, decide_eq_true_eq, decide_eq_true_eq, List.mem_cons]
      exact ⟨.inr, fun z => z.resolve_left fun z => h z.symm⟩
theorem find_any (kvs : List (D × D)) (k : D) : (dget kvs k).isSome = kvs.any fun p => decide (p.1 = k) := by
  unfold dget
  induction kvs with
  | nil => rfl
  | cons p r ih =>
    rw [List.find?_cons, List.any_cons]
    by_cases h : p.1 = k
    · rw [decide_eq_true h]; rfl
    · rw [decide_eq_false h]; exact ih
theorem nin_m (q : List Ent) (s : Nat × Nat) : cmpop .nin (keyS s) (mD q) = some (!decide (s ∈ q.map (·.1))) := by
  show (if askable (q.map fun e => (keyS e.1, D.bl true)) (keyS s) then some (!(dget (q.map fun e => (keyS e.1, D.bl true)) (keyS s)).isSome) else none) = _
  rw [if_pos (ask_m q s), find_any, any_m]
theorem put_m (q : List Ent) (s : Nat × Nat) (p : Wd) (h : s ∉ q.map (·.1)) (hl : q.length < 100000) : setItem (keyS s) (.bl true) (mD q) = some ((), mD (q ++ [(s, p)])) := by
  have hLM : LIM = 16777216 := rfl
  show (if askable (q.map fun e => (keyS e.1, D.bl true)) (keyS s) && decide ((q.map fun e => (keyS e.1, D.bl true)).length < LIM) then some ((), D.dic (dput (q.map fun e => (keyS e.1, D.bl true)) (keyS s) (.bl true))) else none) = _
  rw [ask_m, decide_eq_true (by rw [List.length_map]; omega)]
  unfold dput
  rw [any_m, decide_eq_false h]
  show some ((), D.dic ((q.map fun e => (keyS e.1, D.bl true)) ++ [(keyS s, .bl true)])) = some ((), D.dic ((q ++ [(s, p)]).map fun e => (keyS e.1, D.bl true)))
  rw [List.map_append]
  rfl
def AE (L u v : Wd) (q : List Ent) (at_ : Nat) (c6 c7 c8 c9 c10 : Cell) : Env := [.fr (.str L), .fr (.str u), .fr (.str v), .ow (qD q), .ow (mD q), .fr (.int at_), c6, c7, c8, c9, c10]
theorem optN_non (o : Option Nat) : (optN o).isNon = o.isNone := by cases o <;> rfl
/-- the queue is not long -/
theorem few_q {L u v : Wd} {q : List Ent} (h : ∀ e ∈ q, run (0, 0) (step2 u v) e.2 = some e.1 ∧ ∀ x ∈ e.2, x ∈ L) (nd : (q.map (·.1)).Nodup) (hu : u.length < 50) (hv : v.length < 50) : q.length ≤ 2500 ∧ ∀ e ∈ q, e.1.1 ≤ u.length ∧ e.1.2 ≤ v.length ∧ e.2.length ≤ u.length := by
  have b : ∀ e ∈ q, e.1.1 ≤ u.length ∧ e.1.2 ≤ v.length ∧ e.2.length ≤ u.length := fun e he => by
    have := (h e he).1
    rw [run_eq] at this
    obtain ⟨h1, h2⟩ := both_some this
    refine ⟨(run1_some h1).1, (run1_some h2).1, ?_⟩
    have : e.2.Sublist u := (run1_iff u e.2).mp (by rw [h1]; rfl)
    exact this.length_le
  refine ⟨?_, b⟩
  have hall : ∀ s ∈ q.map (·.1), s ∈ (List.range 50).flatMap fun i => (List.range 50).map fun j => (i, j) := fun s hs => by
    obtain ⟨e, he, rfl⟩ := List.mem_map.mp hs
    obtain ⟨h1, h2, _⟩ := b e he
    rw [List.mem_flatMap]
    refine ⟨e.1.1, List.mem_range.mpr (by omega), List.mem_map.mpr ⟨e.1.2, List.mem_range.mpr (by omega), rfl⟩⟩
  have := nodup_len _ _ nd hall
  have e : ((List.range 50).flatMap fun i => (List.range 50).map fun j => (i, j)).length = 2500 := by decide +kernel
  rw [e, List.length_map] at this
  exact this
/-- one letter -/
theorem ab_letter (n : Nat) (L u v : Wd) (hu : u.length < 50) (hv : v.length < 50) (q : List Ent) (hq : q.length ≤ 2500) (at_ : Nat) (i j : Nat) (hi : i ≤ u.length) (hj : j ≤ v.length) (p : Wd) (hp : p.length < 100) (c : Nat) (c10 : Cell) (h10 : NoD c10) :
    ∃ d10, NoD d10 ∧ fb2_0 (callF fns (n + 1)) (AE L u v q at_ (.fr (.int i)) (.fr (.int j)) (.fr (.str p)) (.fr (.str [c])) c10) =
      (if fnd2 u v (i, j) c = true then .ok (.ret (.fr (.str (p ++ [c])))) (AE L u v q at_ (.fr (.int i)) (.fr (.int j)) (.fr (.str p)) (.fr (.str [c])) d10)
       else match step2 u v (i, j) c with
        | some t => if t ∈ q.map (·.1) then .ok .next (AE L u v q at_ (.fr (.int i)) (.fr (.int j)) (.fr (.str p)) (.fr (.str [c])) d10)
            else .ok .next (AE L u v (q ++ [(t, p ++ [c])]) at_ (.fr (.int i)) (.fr (.int j)) (.fr (.str p)) (.fr (.str [c])) d10)
        | none => .ok .next (AE L u v q at_ (.fr (.int i)) (.fr (.int j)) (.fr (.str p)) (.fr (.str [c])) d10)) := by
  have hLM : LIM = 16777216 := rfl
  have q1 := c_behind n u c i (by omega) hi
  have q2 := c_behind n v c j (by omega) hj
  have e1 : (bfS (u.drop i) c).map (i + ·) = pos u i c := rfl
  have e2 : (bfS (v.drop j) c).map (j + ·) = pos v j c := rfl
  rw [e1] at q1
  rw [e2] at q2
  generalize hpu : pos u i c = pu at q1
  generalize hpv : pos v j c = pv at q2
  have hf : fnd2 u v (i, j) c = (pu.isNone != pv.isNone) := by unfold fnd2; rw [hpu, hpv]
  have hst : step2 u v (i, j) c = pair2 pu pv := by unfold step2; rw [hpu, hpv]
  rw [hf, hst]
  have p0 : sSet 10 (sTup (sCons (fz (sCall (callF fns (n + 1)) 1 [] (sCons (fz (sVar 1)) (sCons (fz (sVar 9)) (sCons (fz (sVar 6)) (sNil)))))) (sCons (fz (sCall (callF fns (n + 1)) 1 [] (sCons (fz (sVar 2)) (sCons (fz (sVar 9)) (sCons (fz (sVar 7)) (sNil)))))) (sNil)))) (AE L u v q at_ (.fr (.int i)) (.fr (.int j)) (.fr (.str p)) (.fr (.str [c])) c10) = .ok .next (AE L u v q at_ (.fr (.int i)) (.fr (.int j)) (.fr (.str p)) (.fr (.str [c])) (.fr (.tup [optN pu, optN pv]))) := by
    refine set_ok (tup_ok (cons_ok (fz_ok (call3v_ok (sVar_fr (i := 1) (d := .str u) rfl) (sVar_fr (i := 9) (d := .str [c]) rfl) (sVar_fr (i := 6) (d := .int i) rfl) q1) rfl) (cons_ok (fz_ok (call3v_ok (sVar_fr (i := 2) (d := .str v) rfl) (sVar_fr (i := 9) (d := .str [c]) rfl) (sVar_fr (i := 7) (d := .int j) rfl) q2) rfl) rfl)) (by simp; omega)) ?_
    rcases h10 with rfl | ⟨y, rfl⟩ <;> rfl
  refine ⟨.fr (.tup [optN pu, optN pv]), .inr ⟨_, rfl⟩, ?_⟩
  generalize hρ : AE L u v q at_ (.fr (.int i)) (.fr (.int j)) (.fr (.str p)) (.fr (.str [c])) (.fr (.tup [optN pu, optN pv])) = ρ
  have r10 : (ρ[10]?).bind Cell.dat = some (.tup [optN pu, optN pv]) := by rw [← hρ]; rfl
  rw [hρ] at p0
  have ix0 : ov (sIdx (oVar 10) (ov (sK (.int 0)))) ρ = .ok (.val (optN pu)) ρ := ov_ok (c := .fr (optN pu)) (s2_ok (f := fun d e => (index d e).map Cell.fr) (oVar_ok (i := 10) r10) (ov_ok (m := sK (.int 0)) rfl rfl) r10 rfl rfl) rfl
  have ix1 : ov (sIdx (oVar 10) (ov (sK (.int 1)))) ρ = .ok (.val (optN pv)) ρ := ov_ok (c := .fr (optN pv)) (s2_ok (f := fun d e => (index d e).map Cell.fr) (oVar_ok (i := 10) r10) (ov_ok (m := sK (.int 1)) rfl rfl) r10 rfl rfl) rfl
  have n0 : sIsN (ov (sIdx (oVar 10) (ov (sK (.int 0))))) ρ = .ok pu.isNone ρ := s1_ok ix0 rfl (by rw [optN_non])
  have n1 : sIsN (ov (sIdx (oVar 10) (ov (sK (.int 1))))) ρ = .ok pv.isNone ρ := s1_ok ix1 rfl (by rw [optN_non])
  have bl : ∀ {m : Sem Bool} {k : Bool}, m ρ = .ok k ρ → sBl m ρ = .ok (.fr (.bl k)) ρ := fun {m k} h => by unfold sBl; simp only [bind', h, pure']
  have c1 : sCmp .ne (ov (sBl (sIsN (ov (sIdx (oVar 10) (ov (sK (.int 0)))))))) (ov (sBl (sIsN (ov (sIdx (oVar 10) (ov (sK (.int 1)))))))) ρ = .ok (pu.isNone != pv.isNone) ρ := by
    refine s2_ok (ov_ok (bl n0) rfl) (ov_ok (bl n1) rfl) rfl rfl ?_
    cases pu <;> cases pv <;> rfl
  have pl : sBin .add (oVar 8) (oVar 9) ρ = .ok (.fr (.str (p ++ [c]))) ρ := s2_ok (f := binop .add) (oVar_ok (i := 8) (d := .str p) (by rw [← hρ]; rfl)) (oVar_ok (i := 9) (d := .str [c]) (by rw [← hρ]; rfl)) (by rw [← hρ]; rfl) (by rw [← hρ]; rfl) (add_str (by simp; omega))
  unfold fb2_0
  refine seq_to p0 ?_
  cases hb : pu.isNone != pv.isNone with
  | true =>
    rw [hb] at c1
    rw [if_pos rfl]
    exact take_ret c1 (sRet_ok pl)
  | false =>
    rw [hb] at c1
    rw [if_neg (by simp)]
    refine skip_if c1 ?_
    cases pu with
    | none =>
      have a : sAnd (sNotN (ov (sIdx (oVar 10) (ov (sK (.int 0)))))) (sCmp .nin (oVar 10) (oVar 4)) ρ = .ok false ρ := and_f (s1_ok ix0 rfl rfl)
      exact (if_false' a).trans rfl
    | some a =>
      cases pv with
      | none => cases hb
      | some b =>
        have nn : sNotN (ov (sIdx (oVar 10) (ov (sK (.int 0))))) ρ = .ok true ρ := s1_ok ix0 rfl rfl
        have m : sCmp .nin (oVar 10) (oVar 4) ρ = .ok (!decide ((a, b) ∈ q.map (·.1))) ρ := s2_ok (oVar_ok (i := 10) r10) (oVar_ok (i := 4) (d := mD q) (by rw [← hρ]; rfl)) r10 (by rw [← hρ]; rfl) (nin_m q (a, b))
        rw [show pair2 (some a) (some b) = some (a, b) from rfl]
        dsimp only
        by_cases hm : (a, b) ∈ q.map (·.1)
        · rw [if_pos hm]
          rw [decide_eq_true hm] at m
          exact (if_false' (and_t nn m)).trans rfl
        · rw [if_neg hm]
          rw [decide_eq_false hm] at m
          refine (if_true' (and_t nn m)).trans ?_
          subst hρ
          have s1 : sSetItem 4 (fz (sVar 10)) (fz (sK (.bl true))) (AE L u v q at_ (.fr (.int i)) (.fr (.int j)) (.fr (.str p)) (.fr (.str [c])) (.fr (.tup [optN (some a), optN (some b)]))) = .ok .next (redo (AE L u v q at_ (.fr (.int i)) (.fr (.int j)) (.fr (.str p)) (.fr (.str [c])) (.fr (.tup [optN (some a), optN (some b)]))) 4 (mD (q ++ [((a, b), p ++ [c])]))) :=
            setItem_ok (d0 := mD q) (d := mD q) rfl rfl (sVar_fr (i := 10) rfl) rfl (put_m q (a, b) (p ++ [c]) hm (by omega))
          refine seq_to s1 ?_
          have ap : binop .add (.tup [optN (some a), optN (some b)]) (.tup [.str (p ++ [c])]) = some (.fr (entD ((a, b), p ++ [c]))) := by
            show (if ([optN (some a), optN (some b)] : List D) ≠ [] ∧ ([optN (some a), optN (some b)] : List D).length + ([.str (p ++ [c])] : List D).length ≤ LIM then some (Cell.fr (.tup ([optN (some a), optN (some b)] ++ [.str (p ++ [c])]))) else none) = _
            rw [if_pos ⟨by simp, by simp; omega⟩]
            rfl
          have pl2 : sBin .add (oVar 8) (oVar 9) (redo (AE L u v q at_ (.fr (.int i)) (.fr (.int j)) (.fr (.str p)) (.fr (.str [c])) (.fr (.tup [optN (some a), optN (some b)]))) 4 (mD (q ++ [((a, b), p ++ [c])]))) = .ok (.fr (.str (p ++ [c]))) (redo (AE L u v q at_ (.fr (.int i)) (.fr (.int j)) (.fr (.str p)) (.fr (.str [c])) (.fr (.tup [optN (some a), optN (some b)]))) 4 (mD (q ++ [((a, b), p ++ [c])]))) :=
            s2_ok (f := binop .add) (oVar_ok (i := 8) (d := .str p) rfl) (oVar_ok (i := 9) (d := .str [c]) rfl) rfl rfl (add_str (by simp; omega))
          have t1 := tup_ok (cons_ok (fz_ok pl2 rfl) (b := sNil) (xs := []) rfl) (by simp; omega)
          have t2 := fz_ok (s2_ok (f := binop .add) (oVar_ok (i := 10) (ρ := redo (AE L u v q at_ (.fr (.int i)) (.fr (.int j)) (.fr (.str p)) (.fr (.str [c])) (.fr (.tup [optN (some a), optN (some b)]))) 4 (mD (q ++ [((a, b), p ++ [c])]))) (d := .tup [optN (some a), optN (some b)]) rfl) (ov_ok t1 rfl) rfl rfl ap) rfl
          have ok := app_ok (i := 3) (xs := q.map entD) (ys := q.map entD) rfl t2 rfl (by rw [List.length_map]; omega)
          refine ok.trans ?_
          have e : D.lst (q.map entD ++ [entD ((a, b), p ++ [c])]) = qD (q ++ [((a, b), p ++ [c])]) := by
            unfold qD
            rw [List.map_append]
            rfl
          rw [e]
          rfl
theorem ab_letters (n : Nat) (L u v : Wd) (hu : u.length < 50) (hv : v.length < 50) (so : L.Pairwise (· < ·)) (at_ : Nat) (done : List Ent) (cur : Ent) : ∀ (l2 l1 : Wd) (rest : List Ent) (c9 c10 : Cell), NoD c9 → NoD c10 → L = l1 ++ l2 → Mid L (0, 0) (step2 u v) (fnd2 u v) done cur rest l1 →
    (∃ w ρ', Least L u v (some w) ∧ forL (.name 9) (fb2_0 (callF fns (n + 1))) (sing l2) (AE L u v (done ++ cur :: rest) at_ (.fr (.int cur.1.1)) (.fr (.int cur.1.2)) (.fr (.str cur.2)) c9 c10) = .ok (.ret (.fr (.str w))) ρ') ∨
    (∃ rest' d9 d10, NoD d9 ∧ NoD d10 ∧ Good L (0, 0) (step2 u v) (fnd2 u v) (done ++ [cur]) rest' ∧ forL (.name 9) (fb2_0 (callF fns (n + 1))) (sing l2) (AE L u v (done ++ cur :: rest) at_ (.fr (.int cur.1.1)) (.fr (.int cur.1.2)) (.fr (.str cur.2)) c9 c10) = .ok .next (AE L u v (done ++ cur :: rest') at_ (.fr (.int cur.1.1)) (.fr (.int cur.1.2)) (.fr (.str cur.2)) d9 d10))
  | [], l1, rest, c9, c10, h9, h10, hl, g => by
    rw [List.append_nil] at hl
    subst hl
    exact .inr ⟨rest, c9, c10, h9, h10, g.good, rfl⟩
  | c :: l2, l1, rest, c9, c10, h9, h10, hl, g => by
    obtain ⟨fq, fb⟩ := few_q g.a g.n hu hv
    obtain ⟨b1, b2, b3⟩ := fb cur (by simp)
    have so' := so
    rw [hl] at so'
    obtain ⟨_, s2, s3⟩ := List.pairwise_append.mp so'
    have lt1 : ∀ x ∈ l1, x < c := fun x hx => s3 x hx c List.mem_cons_self
    have hc : c ∈ L := by rw [hl]; simp
    have hin : ∀ x ∈ L, x < c → x ∈ l1 := fun x hx hxc => by
      rw [hl] at hx
      rcases List.mem_append.mp hx with h | h
      · exact h
      · rcases List.mem_cons.mp h with rfl | h
        · omega
        · have := (List.pairwise_cons.mp s2).1 x h
          omega
    have st : storeS (.name 9) (.str [c]) (AE L u v (done ++ cur :: rest) at_ (.fr (.int cur.1.1)) (.fr (.int cur.1.2)) (.fr (.str cur.2)) c9 c10) = .ok .next (AE L u v (done ++ cur :: rest) at_ (.fr (.int cur.1.1)) (.fr (.int cur.1.2)) (.fr (.str cur.2)) (.fr (.str [c])) c10) := by
      rcases h9 with rfl | ⟨y, rfl⟩ <;> rfl
    obtain ⟨d10, k10, q⟩ := ab_letter n L u v hu hv (done ++ cur :: rest) fq at_ cur.1.1 cur.1.2 b1 b2 cur.2 (by omega) c c10 h10
    cases hf : fnd2 u v (cur.1.1, cur.1.2) c with
    | true =>
      rw [hf, if_pos rfl] at q
      exact .inl ⟨cur.2 ++ [c], _, found_least g hin hc hf, forL_ret st q⟩
    | false =>
      rw [hf, if_neg (by simp)] at q
      cases hs : step2 u v (cur.1.1, cur.1.2) c with
      | none =>
        rw [hs] at q
        have g' := g.old hf (fun t ht => by
          have : step2 u v cur.1 c = some t := ht
          rw [show cur.1 = (cur.1.1, cur.1.2) from rfl, hs] at this
          cases this) lt1
        rcases ab_letters n L u v hu hv so at_ done cur l2 (l1 ++ [c]) rest (.fr (.str [c])) d10 (.inr ⟨_, rfl⟩) k10 (by rw [hl]; simp) g' with ⟨w, ρ', h1, h2⟩ | ⟨r', d9, e10, k1, k2, h1, h2⟩
        · exact .inl ⟨w, ρ', h1, (forL_next st q).trans h2⟩
        · exact .inr ⟨r', d9, e10, k1, k2, h1, (forL_next st q).trans h2⟩
      | some t =>
        rw [hs] at q
        dsimp only at q
        by_cases ht : t ∈ (done ++ cur :: rest).map (·.1)
        · rw [if_pos ht] at q
          have g' := g.old hf (fun t' ht' => by
            have : step2 u v cur.1 c = some t' := ht'
            rw [show cur.1 = (cur.1.1, cur.1.2) from rfl, hs] at this
            cases this
            exact ht) lt1
          rcases ab_letters n L u v hu hv so at_ done cur l2 (l1 ++ [c]) rest (.fr (.str [c])) d10 (.inr ⟨_, rfl⟩) k10 (by rw [hl]; simp) g' with ⟨w, ρ', h1, h2⟩ | ⟨r', d9, e10, k1, k2, h1, h2⟩
          · exact .inl ⟨w, ρ', h1, (forL_next st q).trans h2⟩
          · exact .inr ⟨r', d9, e10, k1, k2, h1, (forL_next st q).trans h2⟩
        · rw [if_neg ht] at q
          have g' := g.new hf hs ht lt1 hc
          have eq : (done ++ cur :: rest) ++ [(t, cur.2 ++ [c])] = done ++ cur :: (rest ++ [(t, cur.2 ++ [c])]) := by simp
          rw [eq] at q
          rcases ab_letters n L u v hu hv so at_ done cur l2 (l1 ++ [c]) (rest ++ [(t, cur.2 ++ [c])]) (.fr (.str [c])) d10 (.inr ⟨_, rfl⟩) k10 (by rw [hl]; simp) g' with ⟨w, ρ', h1, h2⟩ | ⟨r', d9, e10, k1, k2, h1, h2⟩
          · exact .inl ⟨w, ρ', h1, (forL_next st q).trans h2⟩
          · exact .inr ⟨r', d9, e10, k1, k2, h1, (forL_next st q).trans h2⟩
theorem ab_loop (n : Nat) (L u v : Wd) (hu : u.length < 50) (hv : v.length < 50) (so : L.Pairwise (· < ·)) : ∀ (m fuel : Nat) (done rest : List Ent) (c6 c7 c8 c9 c10 : Cell), NoD c6 → NoD c7 → NoD c8 → NoD c9 → NoD c10 →
    Good L (0, 0) (step2 u v) (fnd2 u v) done rest → 2501 ≤ m + done.length → m < fuel →
    ∃ r ρ', Least L u v r ∧ whileL (fb2_2 (callF fns (n + 1))) (fb2_1 (callF fns (n + 1))) fuel (AE L u v (done ++ rest) done.length c6 c7 c8 c9 c10) = .ok (match r with | some w => .ret (.fr (.str w)) | none => .next) ρ'
  | m, 0, done, rest, c6, c7, c8, c9, c10, _, _, _, _, _, g, hm, hf => absurd hf (by omega)
  | 0, fuel + 1, done, rest, c6, c7, c8, c9, c10, h6, h7, h8, h9, h10, g, hm, hf => by
    have := (few_q g.a g.n hu hv).1
    rw [List.length_append] at this
    omega
  | m + 1, fuel + 1, done, rest, c6, c7, c8, c9, c10, h6, h7, h8, h9, h10, g, hm, hf => by
    obtain ⟨fq, fb⟩ := few_q g.a g.n hu hv
    have cnd : fb2_2 (callF fns (n + 1)) (AE L u v (done ++ rest) done.length c6 c7 c8 c9 c10) = .ok (decide (done.length < (done ++ rest).length)) (AE L u v (done ++ rest) done.length c6 c7 c8 c9 c10) := by
      show s2 (oVar 5) (ov (sB bLen (oCons (oVar 3) oNil))) (cmpop .lt) (AE L u v (done ++ rest) done.length c6 c7 c8 c9 c10) = _
      refine s2_ok (ρ := AE L u v (done ++ rest) done.length c6 c7 c8 c9 c10) (oVar_ok (i := 5) (d := .int done.length) rfl) (ov_ok (sB1_var (f := bLen) (i := 3) (d := qD (done ++ rest)) (r := .fr (.int (done ++ rest).length)) rfl ?_) rfl) rfl rfl ?_
      · show some (Cell.fr (.int (((done ++ rest).map entD).length : Nat))) = _
        rw [List.length_map]
      · show some (decide ((done.length : Int) < ((done ++ rest).length : Int))) = _
        congr 1
        rw [Bool.eq_iff_iff, decide_eq_true_eq, decide_eq_true_eq]
        omega
    cases rest with
    | nil =>
      rw [decide_eq_false (by simp)] at cnd
      exact ⟨none, _, none_least g, while_end cnd⟩
    | cons cur rest =>
      rw [decide_eq_true (by simp)] at cnd
      have hi : index (qD (done ++ cur :: rest)) (.int done.length) = some (entD cur) := by
        show atI ((done ++ cur :: rest).map entD) (done.length : Int) = _
        rw [atI_nat _ _ (by omega) (by simp; omega), Int.toNat_natCast, List.getElem?_map, List.getElem?_append_right (Nat.le_refl _), Nat.sub_self]
        rfl
      have p0 : sAsg (.tup [.name 6, .name 7, .name 8]) (fz (sIdx (oVar 3) (oVar 5))) (AE L u v (done ++ cur :: rest) done.length c6 c7 c8 c9 c10) = .ok .next (AE L u v (done ++ cur :: rest) done.length (.fr (.int cur.1.1)) (.fr (.int cur.1.2)) (.fr (.str cur.2)) c9 c10) := by
        refine asg_ok (fz_ok (c := .fr (entD cur)) (s2_ok (f := fun d e => (index d e).map Cell.fr) (oVar_ok (i := 3) (d := qD (done ++ cur :: rest)) rfl) (oVar_ok (i := 5) (d := .int done.length) rfl) rfl rfl (by rw [hi]; rfl)) rfl) ?_
        rcases h6 with rfl | ⟨y6, rfl⟩ <;> rcases h7 with rfl | ⟨y7, rfl⟩ <;> rcases h8 with rfl | ⟨y8, rfl⟩ <;> rfl
      rcases ab_letters n L u v hu hv so done.length done cur L [] rest c9 c10 h9 h10 rfl g.mid with ⟨w, ρ', h1, h2⟩ | ⟨r', d9, e10, k1, k2, h1, h2⟩
      · refine ⟨some w, ρ', h1, while_ret cnd ?_⟩
        unfold fb2_1
        exact seq_to p0 (seq_ret ((for_ok rfl).trans h2))
      · have p2 : sAug 5 .add (ov (sK (.int 1))) (AE L u v (done ++ cur :: r') done.length (.fr (.int cur.1.1)) (.fr (.int cur.1.2)) (.fr (.str cur.2)) d9 e10) = .ok .next (AE L u v ((done ++ [cur]) ++ r') (done ++ [cur]).length (.fr (.int cur.1.1)) (.fr (.int cur.1.2)) (.fr (.str cur.2)) d9 e10) := by
          have e1 : (done ++ [cur]) ++ r' = done ++ cur :: r' := by simp
          have e2 : (done ++ [cur]).length = done.length + 1 := by simp
          rw [e1, e2]
          rfl
        obtain ⟨r, ρ', z1, z2⟩ := ab_loop n L u v hu hv so m fuel (done ++ [cur]) r' (.fr (.int cur.1.1)) (.fr (.int cur.1.2)) (.fr (.str cur.2)) d9 e10 (.inr ⟨_, rfl⟩) (.inr ⟨_, rfl⟩) (.inr ⟨_, rfl⟩) k1 k2 h1 (by simp; omega) (by omega)
        refine ⟨r, ρ', z1, while_go cnd ?_ z2⟩
        unfold fb2_1
        exact seq_to p0 (seq_to ((for_ok rfl).trans h2) p2)
/-- apart_by -/
theorem c_apart (n : Nat) (L u v : Wd) (hu : u.length < 50) (hv : v.length < 50) (so : L.Pairwise (· < ·)) : ∃ r, Least L u v r ∧ callF fns (n + 2) 2 [.fr (.str L), .fr (.str u), .fr (.str v)] = .ok (.fr (optW r)) [] := by
  obtain ⟨r, ρ', h1, q⟩ := ab_loop n L u v hu hv so 2501 FUEL [] [((0, 0), [])] .no .no .no .no .no (.inl rfl) (.inl rfl) (.inl rfl) (.inl rfl) (.inl rfl) Good.start (by simp) (by have : FUEL = 1000000000 := rfl; omega)
  refine ⟨r, h1, ?_⟩
  rw [call_eq (n + 1) 2 _ _ rfl]
  generalize hG : FUEL = G at q
  cases r with
  | none =>
    have hh : fb2 (callF fns (n + 1)) [.fr (.str L), .fr (.str u), .fr (.str v), .no, .no, .no, .no, .no, .no, .no, .no] = .ok (.ret (.fr .non)) ρ' := by
      unfold fb2
      rw [hG]
      exact seq_to (ρ1 := [.fr (.str L), .fr (.str u), .fr (.str v), .ow (qD [((0, 0), [])]), .no, .no, .no, .no, .no, .no, .no]) rfl
        (seq_to (ρ1 := [.fr (.str L), .fr (.str u), .fr (.str v), .ow (qD [((0, 0), [])]), .ow (mD [((0, 0), [])]), .no, .no, .no, .no, .no, .no]) rfl
          (seq_to (ρ1 := [.fr (.str L), .fr (.str u), .fr (.str v), .ow (qD [((0, 0), [])]), .ow (mD [((0, 0), [])]), .fr (.int 0), .no, .no, .no, .no, .no]) rfl (seq_to q rfl)))
    exact run_r hh rfl rfl rfl rfl
  | some w =>
    have hh : fb2 (callF fns (n + 1)) [.fr (.str L), .fr (.str u), .fr (.str v), .no, .no, .no, .no, .no, .no, .no, .no] = .ok (.ret (.fr (.str w))) ρ' := by
      unfold fb2
      rw [hG]
      exact seq_to (ρ1 := [.fr (.str L), .fr (.str u), .fr (.str v), .ow (qD [((0, 0), [])]), .no, .no, .no, .no, .no, .no, .no]) rfl
        (seq_to (ρ1 := [.fr (.str L), .fr (.str u), .fr (.str v), .ow (qD [((0, 0), [])]), .ow (mD [((0, 0), [])]), .no, .no, .no, .no, .no, .no]) rfl
          (seq_to (ρ1 := [.fr (.str L), .fr (.str u), .fr (.str v), .ow (qD [((0, 0), [])]), .ow (mD [((0, 0), [])]), .fr (.int 0), .no, .no, .no, .no, .no]) rfl (seq_ret q)))
    exact run_r hh rfl rfl rfl rfl
/-- what is told when it is not too long -/
def upto (m : Nat) : Option Wd → Option Wd
  | some w => if w.length ≤ m then some w else none
  | none => none
/-- apart_up_to -/
theorem c_upto (n : Nat) (L u v : Wd) (hu : u.length < 50) (hv : v.length < 50) (so : L.Pairwise (· < ·)) {r : Option Wd} (hr : Least L u v r) (hl : ∀ w, r = some w → w.length < 1000) (m : Nat) : callF fns (n + 3) 3 [.fr (.str L), .fr (.str u), .fr (.str v), .fr (.int m)] = .ok (.fr (optW (upto m r))) [] := by
  obtain ⟨r', h1, q⟩ := c_apart n L u v hu hv so
  obtain rfl := least_one hr h1
  rw [call_eq (n + 2) 3 _ _ rfl]
  have p0 : sSet 4 (sCall (callF fns (n + 2)) 2 [] (sCons (fz (sVar 0)) (sCons (fz (sVar 1)) (sCons (fz (sVar 2)) (sNil))))) [.fr (.str L), .fr (.str u), .fr (.str v), .fr (.int m), .no] = .ok .next [.fr (.str L), .fr (.str u), .fr (.str v), .fr (.int m), .fr (optW r)] :=
    set_ok (call3v_ok (sVar_fr (i := 0) (d := .str L) rfl) (sVar_fr (i := 1) (d := .str u) rfl) (sVar_fr (i := 2) (d := .str v) rfl) q) rfl
  have p1 : sRet (sIf (sOr (sIsN (oVar 4)) (sCmp .gt (ov (sB bLen (oCons (oVar 4) (oNil)))) (oVar 3))) (sK .non) (sVar 4)) [.fr (.str L), .fr (.str u), .fr (.str v), .fr (.int m), .fr (optW r)] = .ok (.ret (.fr (optW (upto m r)))) [.fr (.str L), .fr (.str u), .fr (.str v), .fr (.int m), .fr (optW r)] := by
    refine sRet_ok ?_
    cases r with
    | none => exact (if_true' (or_t (isN_ok (d := .non) rfl))).trans rfl
    | some w =>
      have hw := hl w rfl
      have a : sIsN (oVar 4) [.fr (.str L), .fr (.str u), .fr (.str v), .fr (.int m), .fr (optW (some w))] = .ok false [.fr (.str L), .fr (.str u), .fr (.str v), .fr (.int m), .fr (optW (some w))] := isN_ok (d := .str w) rfl
      have b : sCmp .gt (ov (sB bLen (oCons (oVar 4) (oNil)))) (oVar 3) [.fr (.str L), .fr (.str u), .fr (.str v), .fr (.int m), .fr (optW (some w))] = .ok (!decide (w.length ≤ m)) [.fr (.str L), .fr (.str u), .fr (.str v), .fr (.int m), .fr (optW (some w))] :=
        s2_ok (ov_ok (sB1_var (f := bLen) (i := 4) (d := .str w) rfl (str_len hw)) rfl) (oVar_ok (i := 3) (d := .int m) rfl) rfl rfl (by
          show some (decide ((m : Int) < (w.length : Int))) = _
          congr 1
          rw [Bool.eq_iff_iff, decide_eq_true_eq, Bool.not_eq_true', decide_eq_false_iff_not]
          omega)
      by_cases h : w.length ≤ m
      · rw [decide_eq_true h] at b
        refine (if_false' (or_f a b)).trans ?_
        have e : upto m (some w) = some w := if_pos h
        rw [e]
        rfl
      · rw [decide_eq_false h] at b
        refine (if_true' (or_f a b)).trans ?_
        have e : upto m (some w) = none := if_neg h
        rw [e]
        rfl
  have hh : fb3 (callF fns (n + 2)) [.fr (.str L), .fr (.str u), .fr (.str v), .fr (.int m), .no] = .ok (.ret (.fr (optW (upto m r)))) [.fr (.str L), .fr (.str u), .fr (.str v), .fr (.int m), .fr (optW r)] := by
    unfold fb3
    exact seq_to p0 p1
  exact run_r hh rfl rfl rfl rfl
def dD (ks : List Wd) : D := .dic (ks.map fun k => (.str k, .bl true))
def insK (ks : List Wd) (k : Wd) : List Wd := if k ∈ ks then ks else ks ++ [k]
theorem ask_d (ks : List Wd) (k : Wd) : askable (ks.map fun k => (D.str k, D.bl true)) (.str k) = true := by
  unfold askable
  have h1 : key1 (.str k) = true := rfl
  have h2 : ((ks.map fun k => (D.str k, D.bl true)).all fun p => key1 p.1) = true := by
    rw [List.all_map, List.all_eq_true]
    exact fun e _ => rfl
  rw [h1, h2]
  rfl
theorem put_d (k : Wd) : ∀ ks : List Wd, (ks.map fun k => (D.str k, D.bl true)).map (fun p => if p.1 = D.str k then (p.1, D.bl true) else p) = ks.map fun k => (D.str k, D.bl true)
  | [] => rfl
  | x :: ks => by
    rw [List.map_cons, List.map_cons, put_d k ks]
    by_cases h : D.str x = D.str k
    · rw [if_pos h]
    · rw [if_neg h]
theorem any_d (k : Wd) : ∀ ks : List Wd, ((ks.map fun k => (D.str k, D.bl true)).any fun p => decide (p.1 = D.str k)) = decide (k ∈ ks)
  | [] => rfl
  | x :: ks => by
    rw [List.map_cons, List.any_cons, any_d k ks]
    by_cases h : x = k
    · subst h
      rw [decide_eq_true (show D.str x = D.str x from rfl), decide_eq_true (show x ∈ x :: ks from List.mem_cons_self)]
      rfl
    · rw [decide_eq_false (show ¬ D.str x = D.str k from fun z => h (by injection z)), Bool.false_or, Bool.eq_iff_iff, decide_eq_true_eq, decide_eq_true_eq, List.mem_cons]
      exact ⟨.inr, fun z => z.resolve_left fun z => h z.symm⟩
theorem set_d (ks : List Wd) (k : Wd) (hl : ks.length < 100000) : setItem (.str k) (.bl true) (dD ks) = some ((), dD (insK ks k)) := by
  have hLM : LIM = 16777216 := rfl
  show (if askable (ks.map fun k => (D.str k, D.bl true)) (.str k) && decide ((ks.map fun k => (D.str k, D.bl true)).length < LIM) then some ((), D.dic (dput (ks.map fun k => (D.str k, D.bl true)) (.str k) (.bl true))) else none) = _
  rw [ask_d, decide_eq_true (by rw [List.length_map]; omega)]
  unfold dput insK
  rw [any_d]
  by_cases h : k ∈ ks
  · rw [decide_eq_true h, if_pos h, put_d]
    rfl
  · rw [decide_eq_false h, if_neg h]
    show some ((), D.dic ((ks.map fun k => (D.str k, D.bl true)) ++ [(D.str k, D.bl true)])) = some ((), D.dic ((ks ++ [k]).map fun k => (D.str k, D.bl true)))
    rw [List.map_append]
    rfl
theorem insK_mem {ks : List Wd} {k x : Wd} : x ∈ insK ks k ↔ x ∈ ks ∨ x = k := by
  unfold insK
  by_cases h : k ∈ ks
  · rw [if_pos h]
    exact ⟨.inl, fun z => z.elim id fun e => e ▸ h⟩
  · rw [if_neg h, List.mem_append, List.mem_singleton]
theorem insK_nd {ks : List Wd} {k : Wd} (nd : ks.Nodup) : (insK ks k).Nodup := by
  unfold insK
  by_cases h : k ∈ ks
  · rw [if_pos h]; exact nd
  · rw [if_neg h]
    exact List.nodup_append.mpr ⟨nd, by simp, fun x hx y hy => by
      simp at hy
      subst hy
      rintro rfl
      exact h hx⟩
/-- a turn of the inner loop -/
def grow (m c : Nat) (ks : List Wd) (p : Wd) : List Wd := if p.length < m then insK ks (p ++ [c]) else ks
theorem pu_inner (Γ : Ora) (w : Wd) (hw : w.length < 12) (m c : Nat) : ∀ (vs ks : List Wd) (c4 : Cell), NoD c4 → ks.Nodup → (∀ k ∈ ks, k.Sublist w) → (∀ v ∈ vs, (v ++ [c]).Sublist w) →
    ∃ d4 ks', NoD d4 ∧ ks'.Nodup ∧ (∀ k ∈ ks', k.Sublist w) ∧ (∀ x, x ∈ ks' ↔ x ∈ ks ∨ ∃ v ∈ vs, v.length < m ∧ x = v ++ [c]) ∧
      forL (.name 4) (fb4_0 Γ) (vs.map D.str) [.fr (.str w), .fr (.int m), .ow (dD ks), .fr (.str [c]), c4] = .ok .next [.fr (.str w), .fr (.int m), .ow (dD ks'), .fr (.str [c]), d4]
  | [], ks, c4, h4, nd, hs, _ => ⟨c4, ks, h4, nd, hs, by simp, rfl⟩
  | v :: vs, ks, c4, h4, nd, hs, hv => by
    have hvs := hv v List.mem_cons_self
    have hvl := hvs.length_le
    rw [List.length_append] at hvl
    have st : storeS (.name 4) (.str v) [.fr (.str w), .fr (.int m), .ow (dD ks), .fr (.str [c]), c4] = .ok .next [.fr (.str w), .fr (.int m), .ow (dD ks), .fr (.str [c]), .fr (.str v)] := by
      rcases h4 with rfl | ⟨y, rfl⟩ <;> rfl
    have hkl : ks.length < 100000 := by
      have h1 := nodup_len ks (Sb w) nd fun k hk => (Sb_mem w k).mpr (hs k hk)
      have h2 : (Sb w).length = 1 * 2 ^ w.length := dbl_len w [[]]
      have h3 : 2 ^ w.length ≤ 2 ^ 11 := Nat.pow_le_pow_right (by omega) (by omega)
      have h4 : (2 : Nat) ^ 11 = 2048 := rfl
      omega
    have cnd : sCmp .lt (ov (sB bLen (oCons (oVar 4) (oNil)))) (oVar 1) [.fr (.str w), .fr (.int m), .ow (dD ks), .fr (.str [c]), .fr (.str v)] = .ok (decide (v.length < m)) [.fr (.str w), .fr (.int m), .ow (dD ks), .fr (.str [c]), .fr (.str v)] :=
      s2_ok (ov_ok (sB1_var (f := bLen) (i := 4) (d := .str v) rfl (str_len (by omega))) rfl) (oVar_ok (i := 1) (d := .int m) rfl) rfl rfl (by
        show some (decide ((v.length : Int) < (m : Int))) = _
        congr 1
        rw [Bool.eq_iff_iff, decide_eq_true_eq, decide_eq_true_eq]
        omega)
    have body : fb4_0 Γ [.fr (.str w), .fr (.int m), .ow (dD ks), .fr (.str [c]), .fr (.str v)] = .ok .next [.fr (.str w), .fr (.int m), .ow (dD (grow m c ks v)), .fr (.str [c]), .fr (.str v)] := by
      unfold grow
      by_cases h : v.length < m
      · rw [decide_eq_true h] at cnd
        rw [if_pos h]
        refine (if_true' cnd).trans ?_
        have pl : fz (sBin .add (oVar 4) (oVar 3)) [.fr (.str w), .fr (.int m), .ow (dD ks), .fr (.str [c]), .fr (.str v)] = .ok (.str (v ++ [c])) [.fr (.str w), .fr (.int m), .ow (dD ks), .fr (.str [c]), .fr (.str v)] :=
          fz_ok (s2_ok (f := binop .add) (oVar_ok (i := 4) (d := .str v) rfl) (oVar_ok (i := 3) (d := .str [c]) rfl) rfl rfl (add_str (by simp; simp at hvl; omega))) rfl
        exact setItem_ok (i := 2) (d0 := dD ks) (d := dD ks) rfl rfl pl rfl (set_d ks (v ++ [c]) hkl)
      · rw [decide_eq_false h] at cnd
        rw [if_neg h]
        exact (if_false' cnd).trans rfl
    have nd' : (grow m c ks v).Nodup := by unfold grow; split; exact insK_nd nd; exact nd
    have mem' : ∀ x, x ∈ grow m c ks v ↔ x ∈ ks ∨ (v.length < m ∧ x = v ++ [c]) := fun x => by
      unfold grow
      by_cases h : v.length < m
      · rw [if_pos h, insK_mem]
        exact ⟨fun z => z.imp id fun z => ⟨h, z⟩, fun z => z.imp id fun z => z.2⟩
      · rw [if_neg h]
        exact ⟨.inl, fun z => z.elim id fun z => (h z.1).elim⟩
    obtain ⟨d4, ks', k4, nd2, hs2, hm2, q⟩ := pu_inner Γ w hw m c vs (grow m c ks v) (.fr (.str v)) (.inr ⟨_, rfl⟩) nd' (fun k hk => by
      rcases (mem' k).mp hk with h | ⟨_, rfl⟩
      · exact hs k h
      · exact hvs) (fun u hu => hv u (List.mem_cons_of_mem _ hu))
    refine ⟨d4, ks', k4, nd2, hs2, fun x => ?_, (forL_next st body).trans q⟩
    rw [hm2, mem']
    constructor
    · rintro ((h | ⟨h1, h2⟩) | ⟨u, hu, h1, h2⟩)
      · exact .inl h
      · exact .inr ⟨v, List.mem_cons_self, h1, h2⟩
      · exact .inr ⟨u, List.mem_cons_of_mem _ hu, h1, h2⟩
    · rintro (h | ⟨u, hu, h1, h2⟩)
      · exact .inl (.inl h)
      · rcases List.mem_cons.mp hu with rfl | hu
        · exact .inl (.inr ⟨h1, h2⟩)
        · exact .inr ⟨u, hu, h1, h2⟩
theorem dstrs_d (ks : List Wd) : dstrs ((ks.map fun k => (D.str k, D.bl true)).map (·.1)) = some ks := by
  rw [List.map_map]
  exact dstrs_map ks
theorem listK_d {ks : List Wd} (h : ks ≠ []) : bListK [dD ks] = some (.ow (.lst (ks.map D.str))) := by
  have h1 : ((ks.map fun k => (D.str k, D.bl true)).all fun p => key1 p.1) = true := by
    rw [List.all_map, List.all_eq_true]
    exact fun e _ => rfl
  show (if (ks.map fun k => (D.str k, D.bl true)) ≠ [] ∧ ((ks.map fun k => (D.str k, D.bl true)).all fun p => key1 p.1) = true then some (Cell.ow (.lst ((ks.map fun k => (D.str k, D.bl true)).map (·.1)))) else none) = _
  rw [if_pos ⟨by simpa using h, h1⟩, List.map_map]
  rfl
/-- the pieces of x of at most m letters -/
def IsUp (m : Nat) (x : Wd) (ks : List Wd) : Prop := ks.Nodup ∧ ∀ k, k ∈ ks ↔ k.Sublist x ∧ k.length ≤ m
theorem pu_loop (Γ : Ora) (w : Wd) (hw : w.length < 12) (m : Nat) : ∀ (r x : Wd) (ks : List Wd) (c3 c4 : Cell), NoD c3 → NoD c4 → w = x ++ r → IsUp m x ks →
    ∃ d3 d4 ks', IsUp m w ks' ∧ forL (.name 3) (fb4_1 Γ) (sing r) [.fr (.str w), .fr (.int m), .ow (dD ks), c3, c4] = .ok .next [.fr (.str w), .fr (.int m), .ow (dD ks'), d3, d4]
  | [], x, ks, c3, c4, h3, h4, hx, hi => by
    rw [List.append_nil] at hx
    subst hx
    exact ⟨c3, c4, ks, hi, rfl⟩
  | c :: r, x, ks, c3, c4, h3, h4, hx, hi => by
    have st : storeS (.name 3) (.str [c]) [.fr (.str w), .fr (.int m), .ow (dD ks), c3, c4] = .ok .next [.fr (.str w), .fr (.int m), .ow (dD ks), .fr (.str [c]), c4] := by
      rcases h3 with rfl | ⟨y, rfl⟩ <;> rfl
    have xw : (x ++ [c]).Sublist w := by rw [hx]; exact List.Sublist.append_left (by simp) x
    have xw0 : x.Sublist w := (List.sublist_append_left x [c]).trans xw
    have ne : ks ≠ [] := fun z => by
      have := (hi.2 []).mpr ⟨List.nil_sublist _, by simp⟩
      rw [z] at this
      cases this
    obtain ⟨d4, ks', k4, nd2, hs2, hm2, q⟩ := pu_inner Γ w hw m c ks ks c4 h4 hi.1 (fun k hk => ((hi.2 k).mp hk).1.trans xw0) (fun v hv => (((hi.2 v).mp hv).1.append_right [c]).trans xw)
    have body : fb4_1 Γ [.fr (.str w), .fr (.int m), .ow (dD ks), .fr (.str [c]), c4] = .ok .next [.fr (.str w), .fr (.int m), .ow (dD ks'), .fr (.str [c]), d4] :=
      (for_ok (iSeq_ok (d := .lst (ks.map D.str)) (fz_ok (sB1_var (f := bListK) (i := 2) (d := dD ks) rfl (listK_d ne)) rfl) rfl)).trans q
    obtain ⟨d3, e4, ks2, h1, h2⟩ := pu_loop Γ w hw m r (x ++ [c]) ks' (.fr (.str [c])) d4 (.inr ⟨_, rfl⟩) k4 (by rw [hx]; simp) ⟨nd2, fun k => by
      rw [hm2, sub_snoc]
      constructor
      · rintro (h | ⟨v, hv, h1, rfl⟩)
        · exact ⟨.inl ((hi.2 k).mp h).1, ((hi.2 k).mp h).2⟩
        · exact ⟨.inr ⟨v, rfl, ((hi.2 v).mp hv).1⟩, by simp; omega⟩
      · rintro ⟨h1 | ⟨u, rfl, h1⟩, h2⟩
        · exact .inl ((hi.2 k).mpr ⟨h1, h2⟩)
        · rw [List.length_append] at h2
          simp at h2
          exact .inr ⟨u, (hi.2 u).mpr ⟨h1, by omega⟩, by omega, rfl⟩⟩
    exact ⟨d3, e4, ks2, h1, (forL_next st body).trans h2⟩
/-- pieces_up_to -/
theorem c_upto_p (n : Nat) (w : Wd) (hw : w.length < 12) (m : Nat) : ∃ ks, IsUp m w ks ∧ callF fns (n + 1) 4 [.fr (.str w), .fr (.int m)] = .ok (.ow (toD (ks.mergeSort leO))) [] := by
  have hLM : LIM = 16777216 := rfl
  obtain ⟨d3, d4, ks, h1, q⟩ := pu_loop (callF fns n) w hw m w [] [[]] .no .no (.inl rfl) (.inl rfl) rfl ⟨by simp, fun k => by
    simp
    intro h
    subst h
    simp⟩
  refine ⟨ks, h1, ?_⟩
  have ne : ks ≠ [] := fun z => by
    have := (h1.2 []).mpr ⟨List.nil_sublist _, by simp⟩
    rw [z] at this
    cases this
  have sh : short ks = true := by
    unfold short
    rw [List.all_eq_true]
    intro k hk
    have := ((h1.2 k).mp hk).1.length_le
    rw [decide_eq_true_eq]
    omega
  have so : bSortOrd [dD ks] = some (.ow (toD (ks.mergeSort leO))) := by
    show (dstrs ((ks.map fun k => (D.str k, D.bl true)).map (·.1))).bind _ = _
    rw [dstrs_d]
    show (if ks ≠ [] ∧ short ks = true then _ else none) = _
    rw [if_pos ⟨ne, sh⟩]
    rfl
  rw [call_eq n 4 _ _ rfl]
  have p0 : sSet 2 (sDisp ((fz (sK (.str [])), fz (sK (.bl true))) :: [])) [.fr (.str w), .fr (.int m), .no, .no, .no] = .ok .next [.fr (.str w), .fr (.int m), .ow (dD [[]]), .no, .no] := rfl
  have hh : fb4 (callF fns n) [.fr (.str w), .fr (.int m), .no, .no, .no] = .ok (.ret (.ow (toD (ks.mergeSort leO)))) [.fr (.str w), .fr (.int m), .ow (dD ks), d3, d4] := by
    unfold fb4
    exact seq_to p0 (seq_to ((for_ok rfl).trans q) (sRet_ok (sB1_var (f := bSortOrd) (i := 2) (d := dD ks) rfl so)))
  exact run_r hh rfl rfl rfl rfl
/-! ### two sorted lists -/
theorem two_in {α : Type} [DecidableEq α] : ∀ {l : List α} {a b : α}, a ∈ l → b ∈ l → a ≠ b → [a, b].Sublist l ∨ [b, a].Sublist l
  | [], _, _, h, _, _ => by cases h
  | x :: l, a, b, ha, hb, ne => by
    rcases List.mem_cons.mp ha with e1 | ha1
    · rcases List.mem_cons.mp hb with e2 | hb1
      · exact (ne (e1.trans e2.symm)).elim
      · subst e1
        exact .inl (List.cons_sublist_cons.mpr (List.singleton_sublist.mpr hb1))
    · rcases List.mem_cons.mp hb with e2 | hb1
      · subst e2
        exact .inr (List.cons_sublist_cons.mpr (List.singleton_sublist.mpr ha1))
      · exact (two_in ha1 hb1 ne).imp (fun h => h.cons x) fun h => h.cons x
theorem not_two {α : Type} [DecidableEq α] : ∀ {l : List α} {a b : α}, l.Nodup → [a, b].Sublist l → [b, a].Sublist l → False
  | [], _, _, _, h, _ => by cases h
  | x :: l, a, b, nd, h1, h2 => by
    obtain ⟨n1, n2⟩ := List.nodup_cons.mp nd
    rw [List.sublist_cons_iff] at h1 h2
    rcases h1 with h1 | ⟨r, e, h1⟩
    · rcases h2 with h2 | ⟨r, e, h2⟩
      · exact not_two n2 h1 h2
      · cases e
        exact n1 (h1.subset (by simp))
    · cases e
      rcases h2 with h2 | ⟨r, e, h2⟩
      · exact n1 (h2.subset (by simp))
      · cases e
        exact n1 (h1.subset (by simp))
theorem ded_nodup {α : Type} [DecidableEq α] : ∀ (xs acc : List α), acc.Nodup → (xs.foldl ded1 acc).Nodup
  | [], _, h => h
  | x :: xs, acc, h => by
    rw [List.foldl_cons]
    refine ded_nodup xs _ ?_
    unfold ded1
    split
    · exact h
    · rename_i hx
      exact List.nodup_append.mpr ⟨h, by simp, fun a ha b hb => by
        simp at hb
        subst hb
        rintro rfl
        exact hx ha⟩
theorem pcs_nd (w : Wd) : (pcs w).Nodup := by
  unfold pcs
  exact (srt_perm leS _).nodup_iff.mpr (ded_nodup _ [] List.nodup_nil)
theorem pcs_so (w : Wd) : (pcs w).Pairwise fun a b => leS a b = true := srt_sorted leS_tot leS_tr _
theorem by_len {l : List Wd} (so : l.Pairwise fun a b => leS a b = true) (nd : l.Nodup) : (l.mergeSort leL).Pairwise fun a b => leO a b = true := by
  have tr : ∀ a b c : Wd, leL a b = true → leL b c = true → leL a c = true := fun a b c h1 h2 => by
    unfold leL at *
    rw [decide_eq_true_eq] at *
    omega
  have tot : ∀ a b : Wd, (leL a b || leL b a) = true := fun a b => by
    unfold leL
    rw [Bool.or_eq_true, decide_eq_true_eq, decide_eq_true_eq]
    omega
  have pm := List.mergeSort_perm l leL
  have ms := List.pairwise_mergeSort tr tot l
  have nd2 : (l.mergeSort leL).Nodup := pm.nodup_iff.mpr nd
  rw [List.pairwise_iff_forall_sublist] at ms ⊢
  intro a b hab
  have h1 := ms hab
  unfold leL at h1
  rw [decide_eq_true_eq] at h1
  rw [leO_iff, ltO_iff]
  rintro (h2 | ⟨h2, h3⟩)
  · omega
  · have ne : b ≠ a := fun e => by rw [e] at h3; exact List.lt_irrefl a h3
    have ma : a ∈ l := pm.mem_iff.mp (hab.subset (by simp))
    have mb : b ∈ l := pm.mem_iff.mp (hab.subset (by simp))
    rcases two_in mb ma ne with h4 | h4
    · have h5 := List.pair_sublist_mergeSort tr tot (a := b) (b := a) (by unfold leL; rw [decide_eq_true_eq]; omega) h4
      exact not_two nd2 hab h5
    · have h5 := (List.pairwise_iff_forall_sublist.mp so) h4
      unfold leS at h5
      rw [decide_eq_true_eq] at h5
      exact absurd h3 (List.not_lt.mpr h5)
theorem few_eq {w : Wd} {m : Nat} {ks : List Wd} (h : IsUp m w ks) : ((pcs w).filter fun p => decide (p.length ≤ m)).mergeSort leL = ks.mergeSort leO := by
  have nd : ((pcs w).filter fun p => decide (p.length ≤ m)).Nodup := (pcs_nd w).filter _
  have so : ((pcs w).filter fun p => decide (p.length ≤ m)).Pairwise fun a b => leS a b = true := (pcs_so w).filter _
  have p1 := List.mergeSort_perm ((pcs w).filter fun p => decide (p.length ≤ m)) leL
  have p2 := List.mergeSort_perm ks leO
  have s2 := List.pairwise_mergeSort (le := leO) (fun a b c h1 h2 => leO_trans h1 h2) (fun a b => by
    rw [Bool.or_eq_true]
    exact leO_tot a b) ks
  have pm : ((pcs w).filter fun p => decide (p.length ≤ m)).Perm ks := by
    refine (List.perm_ext_iff_of_nodup nd h.1).mpr fun x => ?_
    rw [List.mem_filter, pcs_mem, decide_eq_true_eq, h.2]
  exact List.Perm.eq_of_pairwise (fun a b _ _ h1 h2 => leO_anti h1 h2) (by_len so nd) s2 ((p1.trans pm).trans p2.symm)
end K68
/-! k68, the plain law: kinds of words. -/
namespace K68
open DL Bfs
def subB : Wd → Wd → Bool
  | [], _ => true
  | _ :: _, [] => false
  | a :: p, b :: w => if a = b then subB p w else subB (a :: p) w
theorem subB_iff : ∀ (w p : Wd), subB p w = true ↔ p.Sublist w
  | [], [] => by simp [subB]
  | [], _ :: _ => by simp [subB]
  | _ :: _, [] => by simp [subB]
  | b :: w, a :: p => by
    unfold subB
    by_cases h : a = b
    · subst h
      rw [if_pos rfl, List.cons_sublist_cons]
      exact subB_iff w p
    · rw [if_neg h, subB_iff w (a :: p), List.sublist_cons_iff]
      constructor
      · exact .inl
      · rintro (z | ⟨r, e, _⟩)
        · exact z
        · cases e; exact (h rfl).elim
theorem lev_so {L : Wd} (so : L.Pairwise (· < ·)) : ∀ n, (lev L n).Pairwise fun a b => ltO a b = true
  | 0 => by simp [lev]
  | n + 1 => by
    show ((lev L n).flatMap (ch L)).Pairwise _
    rw [List.pairwise_flatMap]
    refine ⟨fun a _ => ?_, (lev_so so n).imp fun {a b} h x hx y hy => ?_⟩
    · unfold ch
      rw [List.pairwise_map]
      exact so.imp fun h => lt_snoc2 a h
    · unfold ch at hx hy
      obtain ⟨c, _, rfl⟩ := List.mem_map.mp hx
      obtain ⟨d, _, rfl⟩ := List.mem_map.mp hy
      exact lt_snoc h c d
theorem Ws_so {L : Wd} (so : L.Pairwise (· < ·)) : ∀ n, (Ws L n).Pairwise fun a b => ltO a b = true
  | 0 => by simp [Ws]
  | n + 1 => by
    show (Ws L n ++ lev L (n + 1)).Pairwise _
    exact List.pairwise_append.mpr ⟨Ws_so so n, lev_so so (n + 1), fun a ha b hb => len_lt (by
      have h1 := ((Ws_mem L n a).mp ha).1
      have h2 := ((lev_mem L (n + 1) b).mp hb).1
      omega)⟩
theorem so_nd {xs : List Wd} (h : xs.Pairwise fun a b => ltO a b = true) : xs.Nodup := h.imp fun {a b} z e => by
  subst e
  exact ltO_irrefl a z
/-- two lists that ascend and have the same words -/
theorem so_eq {xs ys : List Wd} (h1 : xs.Pairwise fun a b => ltO a b = true) (h2 : ys.Pairwise fun a b => ltO a b = true) (h : ∀ x, x ∈ xs ↔ x ∈ ys) : xs = ys :=
  List.Perm.eq_of_pairwise (fun a b _ _ z1 z2 => (ltO_irrefl a (ltO_trans z1 z2)).elim) h1 h2 ((List.perm_ext_iff_of_nodup (so_nd h1) (so_nd h2)).mpr h)
/-- the kind of a word -/
def kp (L : Wd) (m : Nat) (w : Wd) : List Wd := (Ws L m).filter fun p => subB p w
theorem kp_mem {L : Wd} {m : Nat} {w : Wd} (hw : ∀ x ∈ w, x ∈ L) (p : Wd) : p ∈ kp L m w ↔ p.Sublist w ∧ p.length ≤ m := by
  unfold kp
  rw [List.mem_filter, subB_iff, Ws_mem]
  exact ⟨fun h => ⟨h.2, h.1.1⟩, fun h => ⟨⟨h.2, fun x hx => hw x (h.1.subset hx)⟩, h.1⟩⟩
theorem kp_so {L : Wd} (so : L.Pairwise (· < ·)) (m : Nat) (w : Wd) : (kp L m w).Pairwise fun a b => ltO a b = true := (Ws_so so m).filter _
theorem kp_eq {L : Wd} {m : Nat} {u v : Wd} (so : L.Pairwise (· < ·)) (hu : ∀ x ∈ u, x ∈ L) (hv : ∀ x ∈ v, x ∈ L) : kp L m u = kp L m v ↔ ∀ p : Wd, p.length ≤ m → (p.Sublist u ↔ p.Sublist v) := by
  constructor
  · intro h p hp
    have h1 := kp_mem (m := m) hu p
    have h2 := kp_mem (m := m) hv p
    rw [h] at h1
    constructor
    · exact fun z => (h2.mp (h1.mpr ⟨z, hp⟩)).1
    · exact fun z => (h1.mp (h2.mpr ⟨z, hp⟩)).1
  · intro h
    refine so_eq (kp_so so m u) (kp_so so m v) fun p => ?_
    rw [kp_mem hu, kp_mem hv]
    exact ⟨fun z => ⟨(h p z.2).mp z.1, z.2⟩, fun z => ⟨(h p z.2).mpr z.1, z.2⟩⟩
theorem le_of_lt {xs : List Wd} (h : xs.Pairwise fun a b => ltO a b = true) : xs.Pairwise fun a b => leO a b = true := h.imp fun z => leO_or.mpr (.inl z)
theorem up_kp {L : Wd} {m : Nat} {w : Wd} {ks : List Wd} (so : L.Pairwise (· < ·)) (hw : ∀ x ∈ w, x ∈ L) (h : IsUp m w ks) : ks.mergeSort leO = kp L m w := by
  have s2 := List.pairwise_mergeSort (le := leO) (fun a b c h1 h2 => leO_trans h1 h2) (fun a b => by
    rw [Bool.or_eq_true]
    exact leO_tot a b) ks
  have pm : (ks.mergeSort leO).Perm (kp L m w) := (List.mergeSort_perm ks leO).trans ((List.perm_ext_iff_of_nodup h.1 (so_nd (kp_so so m w))).mpr fun x => by rw [h.2, kp_mem hw])
  exact List.Perm.eq_of_pairwise (fun a b _ _ h1 h2 => leO_anti h1 h2) s2 (le_of_lt (kp_so so m w)) pm
theorem mem_snoc {L z : Wd} {c : Nat} (h : ∀ x ∈ z, x ∈ L) (hc : c ∈ L) : ∀ x ∈ z ++ [c], x ∈ L := fun x hx => by
  rcases List.mem_append.mp hx with hx | hx
  · exact h x hx
  · simp at hx; subst hx; exact hc
theorem kp_right {L : Wd} {m : Nat} {u v : Wd} {c : Nat} (so : L.Pairwise (· < ·)) (hu : ∀ x ∈ u, x ∈ L) (hv : ∀ x ∈ v, x ∈ L) (hc : c ∈ L) (h : kp L m u = kp L m v) : kp L m (u ++ [c]) = kp L m (v ++ [c]) := by
  rw [kp_eq so hu hv] at h
  rw [kp_eq so (mem_snoc hu hc) (mem_snoc hv hc)]
  intro p hp
  rw [sub_snoc, sub_snoc, h p hp]
  constructor
  · rintro (z | ⟨q, rfl, z⟩)
    · exact .inl z
    · exact .inr ⟨q, rfl, (h q (by simp at hp; omega)).mp z⟩
  · rintro (z | ⟨q, rfl, z⟩)
    · exact .inl z
    · exact .inr ⟨q, rfl, (h q (by simp at hp; omega)).mpr z⟩
theorem kp_left {L : Wd} {m : Nat} {u v : Wd} {c : Nat} (so : L.Pairwise (· < ·)) (hu : ∀ x ∈ u, x ∈ L) (hv : ∀ x ∈ v, x ∈ L) (hc : c ∈ L) (h : kp L m u = kp L m v) : kp L m (c :: u) = kp L m (c :: v) := by
  rw [kp_eq so hu hv] at h
  have mc : ∀ {w : Wd}, (∀ x ∈ w, x ∈ L) → ∀ x ∈ c :: w, x ∈ L := fun {w} hw x hx => by
    rcases List.mem_cons.mp hx with rfl | hx
    · exact hc
    · exact hw x hx
  rw [kp_eq so (mc hu) (mc hv)]
  intro p hp
  rw [List.sublist_cons_iff, List.sublist_cons_iff, h p hp]
  constructor
  · rintro (z | ⟨q, rfl, z⟩)
    · exact .inl z
    · exact .inr ⟨q, rfl, (h q (by simp at hp; omega)).mp z⟩
  · rintro (z | ⟨q, rfl, z⟩)
    · exact .inl z
    · exact .inr ⟨q, rfl, (h q (by simp at hp; omega)).mpr z⟩
/-- the kind with a letter more -/
def gone (L : Wd) (m : Nat) (s : List Wd) (c : Nat) : List Wd := (Ws L m).filter fun p => decide (p ∈ s) || s.any fun q => decide (q.length < m) && decide (p = q ++ [c])
theorem gone_mem {L : Wd} {m : Nat} {s : List Wd} {c : Nat} (p : Wd) : p ∈ gone L m s c ↔ p ∈ Ws L m ∧ (p ∈ s ∨ ∃ q ∈ s, q.length < m ∧ p = q ++ [c]) := by
  unfold gone
  rw [List.mem_filter, Bool.or_eq_true, decide_eq_true_eq, List.any_eq_true]
  simp only [Bool.and_eq_true, decide_eq_true_eq]
theorem gone_kp {L : Wd} {m : Nat} {w : Wd} {c : Nat} (so : L.Pairwise (· < ·)) (hw : ∀ x ∈ w, x ∈ L) (hc : c ∈ L) : gone L m (kp L m w) c = kp L m (w ++ [c]) := by
  refine so_eq ((Ws_so so m).filter _) (kp_so so m _) fun p => ?_
  rw [gone_mem, kp_mem (mem_snoc hw hc), sub_snoc, Ws_mem, kp_mem hw]
  constructor
  · rintro ⟨⟨h1, h2⟩, h | ⟨q, hq, h3, rfl⟩⟩
    · exact ⟨.inl h.1, h1⟩
    · exact ⟨.inr ⟨q, rfl, ((kp_mem hw q).mp hq).1⟩, h1⟩
  · rintro ⟨h | ⟨q, rfl, h⟩, h1⟩
    · exact ⟨⟨h1, fun x hx => hw x (h.subset hx)⟩, .inl ⟨h, h1⟩⟩
    · rw [List.length_append] at h1
      simp at h1
      refine ⟨⟨by simp; omega, mem_snoc (fun x hx => hw x (h.subset hx)) hc⟩, .inr ⟨q, (kp_mem hw q).mpr ⟨h, by omega⟩, by omega, rfl⟩⟩
abbrev stepK (L : Wd) (m : Nat) (s : List Wd) (c : Nat) : Option (List Wd) := some (gone L m s c)
abbrev noF (s : List Wd) (c : Nat) : Bool := false
theorem run_kp {L : Wd} {m : Nat} (so : L.Pairwise (· < ·)) : ∀ (k : Nat) (w : Wd), w.length = k → (∀ x ∈ w, x ∈ L) → run (kp L m []) (stepK L m) w = some (kp L m w)
  | 0, w, h, _ => by
    have := List.length_eq_zero_iff.mp h
    subst this
    rfl
  | k + 1, w, h, hw => by
    obtain ⟨z, e, rfl⟩ : ∃ z e, w = z ++ [e] := by
      rcases List.eq_nil_or_concat w with h1 | ⟨z, e, h1⟩
      · subst h1; simp at h
      · exact ⟨z, e, by simpa using h1⟩
    have hz : ∀ x ∈ z, x ∈ L := fun x hx => hw x (List.mem_append_left _ hx)
    rw [run_snoc, run_kp so k z (by simpa using h) hz]
    show some (gone L m (kp L m z) e) = _
    rw [gone_kp so hz (hw e (by simp))]
theorem kp_nil (L : Wd) (m : Nat) : kp L m [] = [[]] := by
  unfold kp
  have h : ∀ n, ∃ r, Ws L n = [] :: r ∧ ∀ p ∈ r, p ≠ [] := by
    intro n
    induction n with
    | zero => exact ⟨[], rfl, by simp⟩
    | succ n ih =>
      obtain ⟨r, hr, hp⟩ := ih
      refine ⟨r ++ lev L (n + 1), by show Ws L n ++ _ = _; rw [hr]; rfl, fun p hp' => ?_⟩
      rcases List.mem_append.mp hp' with h | h
      · exact hp p h
      · have := ((lev_mem L _ p).mp h).1
        intro e
        subst e
        simp at this
  obtain ⟨r, hr, hp⟩ := h m
  rw [hr, List.filter_cons]
  have e : (r.filter fun p => subB p []) = [] := by
    rw [List.filter_eq_nil_iff]
    intro p hp'
    cases p with
    | nil => exact (hp [] hp' rfl).elim
    | cons a p => simp [subB]
  rw [e]
  rfl
/-! ### few kinds -/
/-- a table of words and those that stand for them with a letter more -/
def closedB (L : Wd) (m : Nat) (T : List (Wd × List Wd)) : Bool := T.any (fun e => e.1.isEmpty) && T.all fun e => decide (e.2.length = L.length) && ((L.zip e.2).all fun cq => (T.any fun f => decide (f.1 = cq.2)) && decide (kp L m cq.2 = kp L m (e.1 ++ [cq.1])) && leO cq.2 (e.1 ++ [cq.1]) && (cq.2.all fun x => decide (x ∈ L)))
theorem closed_rep {L : Wd} {m : Nat} {T : List (Wd × List Wd)} (so : L.Pairwise (· < ·)) (h : closedB L m T = true) : ∀ (k : Nat) (y : Wd), y.length = k → (∀ x ∈ y, x ∈ L) → ∃ q ∈ T.map (·.1), kp L m q = kp L m y ∧ leO q y = true ∧ ∀ x ∈ q, x ∈ L
  | 0, y, hk, _ => by
    have := List.length_eq_zero_iff.mp hk
    subst this
    unfold closedB at h
    rw [Bool.and_eq_true, List.any_eq_true] at h
    obtain ⟨⟨e, he, h1⟩, _⟩ := h
    have : e.1 = [] := by simpa using h1
    exact ⟨[], List.mem_map.mpr ⟨e, he, this⟩, rfl, leO_refl _, by simp⟩
  | k + 1, y, hk, hy => by
    obtain ⟨z, c, rfl⟩ : ∃ z c, y = z ++ [c] := by
      rcases List.eq_nil_or_concat y with h1 | ⟨z, e, h1⟩
      · subst h1; simp at hk
      · exact ⟨z, e, by simpa using h1⟩
    have hz : ∀ x ∈ z, x ∈ L := fun x hx => hy x (List.mem_append_left _ hx)
    have hc : c ∈ L := hy c (by simp)
    obtain ⟨q, hq, h1, h2, h3⟩ := closed_rep so h k z (by simpa using hk) hz
    obtain ⟨e, he, rfl⟩ := List.mem_map.mp hq
    have h' := h
    unfold closedB at h'
    rw [Bool.and_eq_true, List.all_eq_true] at h'
    have he' := h'.2 e he
    rw [Bool.and_eq_true, decide_eq_true_eq, List.all_eq_true] at he'
    obtain ⟨hl, hall⟩ := he'
    obtain ⟨i, hi, hic⟩ := List.mem_iff_getElem.mp hc
    have hm : (c, e.2[i]'(by omega)) ∈ L.zip e.2 := by
      rw [List.mem_iff_getElem]
      exact ⟨i, by simp; omega, by simp [hic]⟩
    have hx := hall _ hm
    rw [Bool.and_eq_true, Bool.and_eq_true, Bool.and_eq_true, List.any_eq_true, decide_eq_true_eq, List.all_eq_true] at hx
    obtain ⟨⟨⟨⟨f, hf, hf2⟩, hx2⟩, hx3⟩, hx4⟩ := hx
    rw [decide_eq_true_eq] at hf2
    refine ⟨_, List.mem_map.mpr ⟨f, hf, hf2⟩, ?_, leO_trans hx3 (le_snoc h2 c), fun x hx => by simpa using hx4 x hx⟩
    rw [hx2]
    exact kp_right so h3 hz hc h1
end K68
/-! k68: the kinds of the pairs that the law draws (printed by k68_mkT.py) -/
namespace K68
open DL Bfs
def T0 : List (Wd × List Wd) := [([], [[97]]), ([97], [[97, 97]]), ([97, 97], [[97, 97, 97]]), ([97, 97, 97], [[97, 97, 97]])]
theorem T0_ok : closedB [97] 3 T0 = true := by decide +kernel
theorem T0_few : T0.length ≤ 68 ∧ (T0.all fun e => decide (e.1.length ≤ 9)) = true := by decide +kernel
def T1 : List (Wd × List Wd) := [([], [[97], [98]]), ([97], [[97, 97], [97, 98]]), ([98], [[98, 97], [98, 98]]), ([97, 97], [[97, 97], [97, 97, 98]]), ([97, 98], [[97, 98, 97], [97, 98, 98]]), ([98, 97], [[98, 97, 97], [98, 97, 98]]), ([98, 98], [[98, 98, 97], [98, 98]]), ([97, 97, 98], [[97, 98, 97], [97, 97, 98, 98]]), ([97, 98, 97], [[97, 98, 97], [97, 98, 97, 98]]), ([97, 98, 98], [[97, 98, 97, 98], [97, 98, 98]]), ([98, 97, 97], [[98, 97, 97], [97, 98, 97, 98]]), ([98, 97, 98], [[97, 98, 97, 98], [98, 97, 98]]), ([98, 98, 97], [[98, 98, 97, 97], [98, 97, 98]]), ([97, 97, 98, 98], [[97, 98, 97, 98], [97, 97, 98, 98]]), ([97, 98, 97, 98], [[97, 98, 97, 98], [97, 98, 97, 98]]), ([98, 98, 97, 97], [[98, 98, 97, 97], [97, 98, 97, 98]])]
theorem T1_ok : closedB [97, 98] 2 T1 = true := by decide +kernel
theorem T1_few : T1.length ≤ 68 ∧ (T1.all fun e => decide (e.1.length ≤ 9)) = true := by decide +kernel
def T2 : List (Wd × List Wd) := [([], [[97], [98]]), ([97], [[97], [97, 98]]), ([98], [[97, 98], [98]]), ([97, 98], [[97, 98], [97, 98]])]
theorem T2_ok : closedB [97, 98] 1 T2 = true := by decide +kernel
theorem T2_few : T2.length ≤ 68 ∧ (T2.all fun e => decide (e.1.length ≤ 9)) = true := by decide +kernel
def T3 : List (Wd × List Wd) := [([], [[97], [98], [99]]), ([97], [[97], [97, 98], [97, 99]]), ([98], [[97, 98], [98], [98, 99]]), ([99], [[97, 99], [98, 99], [99]]), ([97, 98], [[97, 98], [97, 98], [97, 98, 99]]), ([97, 99], [[97, 99], [97, 98, 99], [97, 99]]), ([98, 99], [[97, 98, 99], [98, 99], [98, 99]]), ([97, 98, 99], [[97, 98, 99], [97, 98, 99], [97, 98, 99]])]
theorem T3_ok : closedB [97, 98, 99] 1 T3 = true := by decide +kernel
theorem T3_few : T3.length ≤ 68 ∧ (T3.all fun e => decide (e.1.length ≤ 9)) = true := by decide +kernel
def T4 : List (Wd × List Wd) := [([], [[], [], []])]
theorem T4_ok : closedB [97, 98, 99] 0 T4 = true := by decide +kernel
theorem T4_few : T4.length ≤ 68 ∧ (T4.all fun e => decide (e.1.length ≤ 9)) = true := by decide +kernel
def T5 : List (Wd × List Wd) := [([], [[97], [98]]), ([97], [[97, 97], [97, 98]]), ([98], [[98, 97], [98, 98]]), ([97, 97], [[97, 97, 97], [97, 97, 98]]), ([97, 98], [[97, 98, 97], [97, 98, 98]]), ([98, 97], [[98, 97, 97], [98, 97, 98]]), ([98, 98], [[98, 98, 97], [98, 98, 98]]), ([97, 97, 97], [[97, 97, 97], [97, 97, 97, 98]]), ([97, 97, 98], [[97, 97, 98, 97], [97, 97, 98, 98]]), ([97, 98, 97], [[97, 98, 97, 97], [97, 98, 97, 98]]), ([97, 98, 98], [[97, 98, 98, 97], [97, 98, 98, 98]]), ([98, 97, 97], [[98, 97, 97, 97], [98, 97, 97, 98]]), ([98, 97, 98], [[98, 97, 98, 97], [98, 97, 98, 98]]), ([98, 98, 97], [[98, 98, 97, 97], [98, 98, 97, 98]]), ([98, 98, 98], [[98, 98, 98, 97], [98, 98, 98]]), ([97, 97, 97, 98], [[97, 97, 98, 97], [97, 97, 97, 98, 98]]), ([97, 97, 98, 97], [[97, 97, 98, 97, 97], [97, 97, 98, 97, 98]]), ([97, 97, 98, 98], [[97, 97, 98, 98, 97], [97, 97, 98, 98, 98]]), ([97, 98, 97, 97], [[97, 98, 97, 97], [97, 98, 97, 97, 98]]), ([97, 98, 97, 98], [[97, 98, 97, 98, 97], [97, 98, 97, 98, 98]]), ([97, 98, 98, 97], [[97, 98, 98, 97, 97], [97, 98, 98, 97, 98]]), ([97, 98, 98, 98], [[97, 98, 98, 98, 97], [97, 98, 98, 98]]), ([98, 97, 97, 97], [[98, 97, 97, 97], [98, 97, 97, 97, 98]]), ([98, 97, 97, 98], [[98, 97, 97, 98, 97], [98, 97, 97, 98, 98]]), ([98, 97, 98, 97], [[98, 97, 98, 97, 97], [98, 97, 98, 97, 98]]), ([98, 97, 98, 98], [[98, 97, 98, 98, 97], [98, 97, 98, 98]]), ([98, 98, 97, 97], [[98, 98, 97, 97, 97], [98, 98, 97, 97, 98]]), ([98, 98, 97, 98], [[98, 98, 97, 98, 97], [98, 98, 97, 98, 98]]), ([98, 98, 98, 97], [[98, 98, 98, 97, 97], [98, 98, 97, 98]]), ([97, 97, 97, 98, 98], [[97, 97, 98, 98, 97], [97, 97, 97, 98, 98, 98]]), ([97, 97, 98, 97, 97], [[97, 97, 98, 97, 97], [97, 98, 97, 97, 98]]), ([97, 97, 98, 97, 98], [[97, 98, 97, 98, 97], [97, 97, 98, 97, 98, 98]]), ([97, 97, 98, 98, 97], [[97, 97, 98, 98, 97, 97], [97, 97, 98, 98, 97, 98]]), ([97, 97, 98, 98, 98], [[97, 97, 98, 98, 98, 97], [97, 97, 98, 98, 98]]), ([97, 98, 97, 97, 98], [[97, 98, 97, 98, 97], [97, 98, 97, 97, 98, 98]]), ([97, 98, 97, 98, 97], [[97, 98, 97, 98, 97], [97, 98, 97, 98, 97, 98]]), ([97, 98, 97, 98, 98], [[97, 98, 97, 98, 97, 98], [97, 98, 97, 98, 98]]), ([97, 98, 98, 97, 97], [[97, 98, 98, 97, 97], [97, 98, 97, 98, 97, 98]]), ([97, 98, 98, 97, 98], [[97, 98, 97, 98, 97, 98], [97, 98, 98, 97, 98]]), ([97, 98, 98, 98, 97], [[97, 98, 98, 98, 97, 97], [97, 98, 98, 97, 98]]), ([98, 97, 97, 97, 98], [[98, 97, 97, 98, 97], [98, 97, 97, 97, 98, 98]]), ([98, 97, 97, 98, 97], [[98, 97, 97, 98, 97], [97, 98, 97, 98, 97, 98]]), ([98, 97, 97, 98, 98], [[97, 98, 97, 98, 97, 98], [98, 97, 97, 98, 98]]), ([98, 97, 98, 97, 97], [[98, 97, 98, 97, 97], [97, 98, 97, 98, 97, 98]]), ([98, 97, 98, 97, 98], [[97, 98, 97, 98, 97, 98], [98, 97, 98, 97, 98]]), ([98, 97, 98, 98, 97], [[98, 97, 98, 98, 97, 97], [98, 97, 98, 97, 98]]), ([98, 98, 97, 97, 97], [[98, 98, 97, 97, 97], [98, 98, 97, 97, 97, 98]]), ([98, 98, 97, 97, 98], [[98, 98, 97, 97, 98, 97], [98, 98, 97, 97, 98, 98]]), ([98, 98, 97, 98, 97], [[98, 98, 97, 98, 97, 97], [98, 97, 98, 97, 98]]), ([98, 98, 97, 98, 98], [[98, 97, 98, 98, 97], [98, 98, 97, 98, 98]]), ([98, 98, 98, 97, 97], [[98, 98, 98, 97, 97, 97], [98, 98, 97, 97, 98]]), ([97, 97, 97, 98, 98, 98], [[97, 97, 98, 98, 98, 97], [97, 97, 97, 98, 98, 98]]), ([97, 97, 98, 97, 98, 98], [[97, 98, 97, 98, 97, 98], [97, 97, 98, 97, 98, 98]]), ([97, 97, 98, 98, 97, 97], [[97, 97, 98, 98, 97, 97], [97, 98, 97, 98, 97, 98]]), ([97, 97, 98, 98, 97, 98], [[97, 98, 97, 98, 97, 98], [97, 97, 98, 98, 97, 98]]), ([97, 97, 98, 98, 98, 97], [[97, 97, 98, 98, 98, 97, 97], [97, 97, 98, 98, 97, 98]]), ([97, 98, 97, 97, 98, 98], [[97, 98, 97, 98, 97, 98], [97, 98, 97, 97, 98, 98]]), ([97, 98, 97, 98, 97, 98], [[97, 98, 97, 98, 97, 98], [97, 98, 97, 98, 97, 98]]), ([97, 98, 98, 98, 97, 97], [[97, 98, 98, 98, 97, 97], [97, 98, 97, 98, 97, 98]]), ([98, 97, 97, 97, 98, 98], [[97, 98, 97, 98, 97, 98], [98, 97, 97, 97, 98, 98]]), ([98, 97, 98, 98, 97, 97], [[98, 97, 98, 98, 97, 97], [97, 98, 97, 98, 97, 98]]), ([98, 98, 97, 97, 97, 98], [[98, 98, 97, 97, 98, 97], [98, 98, 97, 97, 97, 98, 98]]), ([98, 98, 97, 97, 98, 97], [[98, 98, 97, 97, 98, 97], [97, 98, 97, 98, 97, 98]]), ([98, 98, 97, 97, 98, 98], [[97, 98, 97, 98, 97, 98], [98, 98, 97, 97, 98, 98]]), ([98, 98, 97, 98, 97, 97], [[98, 98, 97, 98, 97, 97], [97, 98, 97, 98, 97, 98]]), ([98, 98, 98, 97, 97, 97], [[98, 98, 98, 97, 97, 97], [98, 98, 97, 97, 97, 98]]), ([97, 97, 98, 98, 98, 97, 97], [[97, 97, 98, 98, 98, 97, 97], [97, 98, 97, 98, 97, 98]]), ([98, 98, 97, 97, 97, 98, 98], [[97, 98, 97, 98, 97, 98], [98, 98, 97, 97, 97, 98, 98]])]
theorem T5_ok : closedB [97, 98] 3 T5 = true := by decide +kernel
theorem T5_few : T5.length ≤ 68 ∧ (T5.all fun e => decide (e.1.length ≤ 9)) = true := by decide +kernel
end K68
/-! k68, the walk: gone_on, kinds_of, least_same, _law_kind. -/
namespace K68
open DL Bfs
def tupS (s : List Wd) : D := .tup (s.map D.str)
theorem mapS_inj : ∀ {a b : List Wd}, a.map D.str = b.map D.str → a = b
  | [], [], _ => rfl
  | [], _ :: _, h => by cases h
  | _ :: _, [], h => by cases h
  | x :: xs, y :: ys, h => by
    rw [List.map_cons, List.map_cons] at h
    injection h with h1 h2
    injection h1 with h1
    rw [h1, mapS_inj h2]
theorem tupS_inj {a b : List Wd} (h : tupS a = tupS b) : a = b := by
  unfold tupS at h
  injection h with h
  exact mapS_inj h
theorem keyT_S (s : List Wd) : keyT (tupS s) = true := by
  show (s.map D.str).all key1 = true
  rw [List.all_map, List.all_eq_true]
  exact fun _ _ => rfl
/-- the dict comprehension of keys -/
theorem compD_keys (Γ : Ora) (a0 a1 a2 a3 : Cell) : ∀ (ps ks : List Wd) (c4 : Cell), NoD c4 → (ks ++ ps).Nodup → ks.length + ps.length < 100000 →
    ∃ d4, NoD d4 ∧ compD [4] (.name 4) sYes (fb5_0 Γ) (fb5_1 Γ) (ps.map D.str) (ks.map fun k => (D.str k, D.bl true)) [a0, a1, a2, a3, c4] = .ok ((ks ++ ps).map fun k => (D.str k, D.bl true)) [a0, a1, a2, a3, d4]
  | [], ks, c4, h4, _, _ => ⟨c4, h4, by rw [List.append_nil]; rfl⟩
  | p :: ps, ks, c4, h4, nd, hl => by
    have hLM : LIM = 16777216 := rfl
    have hp : p ∉ ks := fun h => (List.nodup_append.mp nd).2.2 p h p List.mem_cons_self rfl
    have e : ks ++ p :: ps = (ks ++ [p]) ++ ps := by simp
    obtain ⟨d4, k4, q⟩ := compD_keys Γ a0 a1 a2 a3 ps (ks ++ [p]) (.fr (.str p)) (.inr ⟨_, rfl⟩) (by rw [← e]; exact nd) (by simp at hl ⊢; omega)
    refine ⟨d4, k4, ?_⟩
    rw [e, ← q]
    have st : store (.name 4) (D.str p) (wipe [a0, a1, a2, a3, c4] [4]) = some [a0, a1, a2, a3, .fr (.str p)] := rfl
    have sd := set_d ks p (by simp at hl; omega)
    have dp : dput (ks.map fun k => (D.str k, D.bl true)) (.str p) (.bl true) = (ks ++ [p]).map fun k => (D.str k, D.bl true) := by
      unfold dput
      rw [any_d, decide_eq_false hp, List.map_append]
      rfl
    rw [List.map_cons]
    conv => lhs; unfold compD
    have e0 : fb5_0 Γ [a0, a1, a2, a3, .fr (.str p)] = .ok (.str p) [a0, a1, a2, a3, .fr (.str p)] := rfl
    have e1 : fb5_1 Γ [a0, a1, a2, a3, .fr (.str p)] = .ok (.bl true) [a0, a1, a2, a3, .fr (.str p)] := rfl
    simp only [st, sYes, e0, e1]
    rw [if_pos ⟨by rw [List.length_map]; omega, rfl, rfl⟩, dp]
theorem dcomp_keys (Γ : Ora) (s : List Wd) (a1 a2 a3 : Cell) (nd : s.Nodup) (hl : s.length < 100000) : sDComp [4] (.name 4) (iSeq (fz (sVar 0))) sYes (fb5_0 Γ) (fb5_1 Γ) [.fr (tupS s), a1, a2, a3, .no] = .ok (.ow (dD s)) [.fr (tupS s), a1, a2, a3, .no] := by
  obtain ⟨d4, k4, q⟩ := compD_keys Γ (.fr (tupS s)) a1 a2 a3 s [] .no (.inl rfl) (by simpa using nd) (by simpa using hl)
  have it : iSeq (fz (sVar 0)) [.fr (tupS s), a1, a2, a3, .no] = .ok (s.map D.str) [.fr (tupS s), a1, a2, a3, .no] := rfl
  unfold sDComp
  rw [it]
  dsimp only
  rw [if_pos (show calmAt [.fr (tupS s), a1, a2, a3, .no] [4] = true from rfl)]
  have q' : compD [4] (.name 4) sYes (fb5_0 Γ) (fb5_1 Γ) (s.map D.str) [] [.fr (tupS s), a1, a2, a3, .no] = .ok (s.map fun k => (D.str k, D.bl true)) [.fr (tupS s), a1, a2, a3, d4] := q
  rw [q']
  rfl
theorem go_inner (Γ : Ora) (S : D) (L : Wd) (m c : Nat) (hW : (Ws L m).length < 1000) (hm : m < 100) : ∀ (vs ks : List Wd) (c4 : Cell), NoD c4 → ks.Nodup → (∀ k ∈ ks, k ∈ Ws L m) → (∀ v ∈ vs, v ∈ Ws L m) → c ∈ L →
    ∃ d4 ks', NoD d4 ∧ ks'.Nodup ∧ (∀ k ∈ ks', k ∈ Ws L m) ∧ (∀ x, x ∈ ks' ↔ x ∈ ks ∨ ∃ v ∈ vs, v.length < m ∧ x = v ++ [c]) ∧
      forL (.name 4) (fb5_2 Γ) (vs.map D.str) [.fr S, .fr (.str [c]), .fr (.int m), .ow (dD ks), c4] = .ok .next [.fr S, .fr (.str [c]), .fr (.int m), .ow (dD ks'), d4]
  | [], ks, c4, h4, nd, hs, _, _ => ⟨c4, ks, h4, nd, hs, by simp, rfl⟩
  | v :: vs, ks, c4, h4, nd, hs, hv, hc => by
    have hvm := (Ws_mem L m v).mp (hv v List.mem_cons_self)
    have st : storeS (.name 4) (.str v) [.fr S, .fr (.str [c]), .fr (.int m), .ow (dD ks), c4] = .ok .next [.fr S, .fr (.str [c]), .fr (.int m), .ow (dD ks), .fr (.str v)] := by
      rcases h4 with rfl | ⟨y, rfl⟩ <;> rfl
    have hkl : ks.length < 100000 := by
      have h1 := nodup_len ks (Ws L m) nd hs
      omega
    have cnd : sCmp .lt (ov (sB bLen (oCons (oVar 4) (oNil)))) (oVar 2) [.fr S, .fr (.str [c]), .fr (.int m), .ow (dD ks), .fr (.str v)] = .ok (decide (v.length < m)) [.fr S, .fr (.str [c]), .fr (.int m), .ow (dD ks), .fr (.str v)] :=
      s2_ok (ov_ok (sB1_var (f := bLen) (i := 4) (d := .str v) rfl (str_len (by omega))) rfl) (oVar_ok (i := 2) (d := .int m) rfl) rfl rfl (by
        show some (decide ((v.length : Int) < (m : Int))) = _
        congr 1
        rw [Bool.eq_iff_iff, decide_eq_true_eq, decide_eq_true_eq]
        omega)
    have body : fb5_2 Γ [.fr S, .fr (.str [c]), .fr (.int m), .ow (dD ks), .fr (.str v)] = .ok .next [.fr S, .fr (.str [c]), .fr (.int m), .ow (dD (grow m c ks v)), .fr (.str v)] := by
      unfold grow
      by_cases h : v.length < m
      · rw [decide_eq_true h] at cnd
        rw [if_pos h]
        refine (if_true' cnd).trans ?_
        have pl : fz (sBin .add (oVar 4) (oVar 1)) [.fr S, .fr (.str [c]), .fr (.int m), .ow (dD ks), .fr (.str v)] = .ok (.str (v ++ [c])) [.fr S, .fr (.str [c]), .fr (.int m), .ow (dD ks), .fr (.str v)] :=
          fz_ok (s2_ok (f := binop .add) (oVar_ok (i := 4) (d := .str v) rfl) (oVar_ok (i := 1) (d := .str [c]) rfl) rfl rfl (add_str (by simp; omega))) rfl
        exact setItem_ok (i := 3) (d0 := dD ks) (d := dD ks) rfl rfl pl rfl (set_d ks (v ++ [c]) hkl)
      · rw [decide_eq_false h] at cnd
        rw [if_neg h]
        exact (if_false' cnd).trans rfl
    have nd' : (grow m c ks v).Nodup := by unfold grow; split; exact insK_nd nd; exact nd
    have mem' : ∀ x, x ∈ grow m c ks v ↔ x ∈ ks ∨ (v.length < m ∧ x = v ++ [c]) := fun x => by
      unfold grow
      by_cases h : v.length < m
      · rw [if_pos h, insK_mem]
        exact ⟨fun z => z.imp id fun z => ⟨h, z⟩, fun z => z.imp id fun z => z.2⟩
      · rw [if_neg h]
        exact ⟨.inl, fun z => z.elim id fun z => (h z.1).elim⟩
    obtain ⟨d4, ks', k4, nd2, hs2, hm2, q⟩ := go_inner Γ S L m c hW hm vs (grow m c ks v) (.fr (.str v)) (.inr ⟨_, rfl⟩) nd' (fun k hk => by
      rcases (mem' k).mp hk with h | ⟨h, rfl⟩
      · exact hs k h
      · exact (Ws_mem L m _).mpr ⟨by simp; omega, mem_snoc hvm.2 hc⟩) (fun u hu => hv u (List.mem_cons_of_mem _ hu)) hc
    refine ⟨d4, ks', k4, nd2, hs2, fun x => ?_, (forL_next st body).trans q⟩
    rw [hm2, mem']
    constructor
    · rintro ((h | ⟨h1, h2⟩) | ⟨u, hu, h1, h2⟩)
      · exact .inl h
      · exact .inr ⟨v, List.mem_cons_self, h1, h2⟩
      · exact .inr ⟨u, List.mem_cons_of_mem _ hu, h1, h2⟩
    · rintro (h | ⟨u, hu, h1, h2⟩)
      · exact .inl (.inl h)
      · rcases List.mem_cons.mp hu with rfl | hu
        · exact .inl (.inr ⟨h1, h2⟩)
        · exact .inr ⟨u, hu, h1, h2⟩
/-- what a turn's letters and number are like -/
structure Wp (L : Wd) (m : Nat) : Prop where
  ne : L ≠ []
  l3 : L.length ≤ 3
  so : L.Pairwise (· < ·)
  sm : ∀ x ∈ L, x < 1000
  hm : m ≤ 3
  hW : (Ws L m).length < 1000
/-- gone_on -/
theorem c_gone (n : Nat) {L : Wd} {m : Nat} (g : Wp L m) (w : Wd) (hw : ∀ x ∈ w, x ∈ L) (c : Nat) (hc : c ∈ L) : callF fns (n + 1) 5 [.fr (tupS (kp L m w)), .fr (.str [c]), .fr (.int m)] = .ok (.fr (tupS (gone L m (kp L m w) c))) [] := by
  have hLM : LIM = 16777216 := rfl
  have hm := g.hm
  have hW := g.hW
  have nd : (kp L m w).Nodup := so_nd (kp_so g.so m w)
  have sub : ∀ k ∈ kp L m w, k ∈ Ws L m := fun k hk => (List.mem_filter.mp hk).1
  have hl := nodup_len (kp L m w) (Ws L m) nd sub
  have k1 := dcomp_keys (callF fns n) (kp L m w) (.fr (.str [c])) (.fr (.int m)) .no nd (by omega)
  obtain ⟨d4, ks, k4, nd2, hs2, hm2, q⟩ := go_inner (callF fns n) (tupS (kp L m w)) L m c hW (by omega) (kp L m w) (kp L m w) .no (.inl rfl) nd sub sub hc
  have ge : ks.mergeSort leO = gone L m (kp L m w) c := by
    have s2 := List.pairwise_mergeSort (le := leO) (fun a b c h1 h2 => leO_trans h1 h2) (fun a b => by
      rw [Bool.or_eq_true]
      exact leO_tot a b) ks
    have gs : (gone L m (kp L m w) c).Pairwise fun a b => ltO a b = true := (Ws_so g.so m).filter _
    have pm : (ks.mergeSort leO).Perm (gone L m (kp L m w) c) := (List.mergeSort_perm ks leO).trans ((List.perm_ext_iff_of_nodup nd2 (so_nd gs)).mpr fun x => by
      rw [hm2, gone_mem]
      constructor
      · rintro (h | h)
        · exact ⟨sub x h, .inl h⟩
        · exact ⟨hs2 x ((hm2 x).mpr (.inr h)), .inr h⟩
      · exact fun h => h.2)
    exact List.Perm.eq_of_pairwise (fun a b _ _ h1 h2 => leO_anti h1 h2) s2 (le_of_lt gs) pm
  have ne : ks ≠ [] := fun z => by
    have h1 : ([] : Wd) ∈ kp L m w := (kp_mem hw []).mpr ⟨List.nil_sublist _, by simp⟩
    have := (hm2 []).mpr (.inl h1)
    rw [z] at this
    cases this
  have sh : short ks = true := by
    unfold short
    rw [List.all_eq_true]
    intro k hk
    have := ((Ws_mem L m k).mp (hs2 k hk)).1
    rw [decide_eq_true_eq]
    omega
  have so : bSortOrd [dD ks] = some (.ow (toD (gone L m (kp L m w) c))) := by
    show (dstrs ((ks.map fun k => (D.str k, D.bl true)).map (·.1))).bind _ = _
    rw [dstrs_d]
    show (if ks ≠ [] ∧ short ks = true then _ else none) = _
    rw [if_pos ⟨ne, sh⟩, ge]
    rfl
  rw [call_eq n 5 _ _ rfl]
  have p0 : sSet 3 (sDComp [4] (.name 4) (iSeq (fz (sVar 0))) (sYes) (fb5_0 (callF fns n)) (fb5_1 (callF fns n))) [.fr (tupS (kp L m w)), .fr (.str [c]), .fr (.int m), .no, .no] = .ok .next [.fr (tupS (kp L m w)), .fr (.str [c]), .fr (.int m), .ow (dD (kp L m w)), .no] := set_ok k1 rfl
  have hh : fb5 (callF fns n) [.fr (tupS (kp L m w)), .fr (.str [c]), .fr (.int m), .no, .no] = .ok (.ret (.fr (tupS (gone L m (kp L m w) c)))) [.fr (tupS (kp L m w)), .fr (.str [c]), .fr (.int m), .ow (dD ks), d4] := by
    unfold fb5
    exact seq_to p0 (seq_to ((for_ok rfl).trans q) (sRet_ok (sB1_ok (f := bTuple) (sB1_var (f := bSortOrd) (i := 3) (d := dD ks) rfl so) rfl rfl)))
  exact run_r hh rfl rfl rfl rfl
end K68
/-! k68, the walk: kinds_of, least_same, _law_kind. -/
namespace K68
open DL Bfs
abbrev Ent2 := List Wd × Wd
def kD (q : List Ent2) : D := .lst (q.map fun e => tupS e.1)
def fP (q : List Ent2) : List (D × D) := q.map fun e => (tupS e.1, .str e.2)
def fD (q : List Ent2) : D := .dic (fP q)
theorem ask_f (q : List Ent2) (s : List Wd) : askable (fP q) (tupS s) = true := by
  unfold askable
  have h2 : ((fP q).all fun p => keyT p.1) = true := by
    unfold fP
    rw [List.all_map, List.all_eq_true]
    exact fun e _ => keyT_S e.1
  rw [keyT_S, h2]
  simp
theorem any_f (s : List Wd) : ∀ q : List Ent2, ((fP q).any fun p => decide (p.1 = tupS s)) = decide (s ∈ q.map (·.1))
  | [] => rfl
  | e :: q => by
    show (decide (tupS e.1 = tupS s) || ((fP q).any fun p => decide (p.1 = tupS s))) = _
    rw [any_f s q, List.map_cons]
    by_cases h : e.1 = s
    · rw [decide_eq_true (show tupS e.1 = tupS s by rw [h]), decide_eq_true (show s ∈ e.1 :: q.map (·.1) by rw [h]; exact List.mem_cons_self)]
      rfl
    · rw [decide_eq_false (fun z => h (tupS_inj z)), Bool.false_or, Bool.eq_iff_iff, decide_eq_true_eq, decide_eq_true_eq, List.mem_cons]
      exact ⟨.inr, fun z => z.resolve_left fun z => h z.symm⟩
theorem some_any (kvs : List (D × D)) (k : D) : (dget kvs k).isSome = kvs.any fun p => decide (p.1 = k) := find_any kvs k
theorem nin_f (q : List Ent2) (s : List Wd) : cmpop .nin (tupS s) (fD q) = some (!decide (s ∈ q.map (·.1))) := by
  show (if askable (fP q) (tupS s) then some (!(dget (fP q) (tupS s)).isSome) else none) = _
  rw [if_pos (ask_f q s), some_any, any_f]
theorem get_f : ∀ {q : List Ent2} {e : Ent2}, (q.map (·.1)).Nodup → e ∈ q → dget (fP q) (tupS e.1) = some (.str e.2)
  | f :: q, e, nd, he => by
    rw [List.map_cons] at nd
    obtain ⟨h1, h2⟩ := List.nodup_cons.mp nd
    unfold dget fP
    rw [List.map_cons, List.find?_cons]
    rcases List.mem_cons.mp he with rfl | he
    · rw [decide_eq_true rfl]
      rfl
    · have ne : ¬ tupS f.1 = tupS e.1 := fun z => h1 (by rw [tupS_inj z]; exact List.mem_map.mpr ⟨e, he, rfl⟩)
      rw [decide_eq_false ne]
      exact get_f h2 he
theorem put_f (q : List Ent2) (s : List Wd) (p : Wd) (h : s ∉ q.map (·.1)) (hl : q.length < 100000) : setItem (tupS s) (.str p) (fD q) = some ((), fD (q ++ [(s, p)])) := by
  have hLM : LIM = 16777216 := rfl
  show (if askable (fP q) (tupS s) && decide ((fP q).length < LIM) then some ((), D.dic (dput (fP q) (tupS s) (.str p))) else none) = _
  rw [ask_f, decide_eq_true (by unfold fP; rw [List.length_map]; omega)]
  unfold dput
  rw [any_f, decide_eq_false h]
  unfold fD fP
  rw [List.map_append]
  rfl
def KE (L : Wd) (m : Nat) (q : List Ent2) (at_ : Nat) (c5 c6 : Cell) : Env := [.fr (.str L), .fr (.int m), .ow (fD q), .ow (kD q), .fr (.int at_), c5, c6]
/-- the words that stand for kinds -/
def Rp (L : Wd) (m : Nat) (Q : List Wd) : Prop := Q.length ≤ 68 ∧ ∀ y : Wd, (∀ x ∈ y, x ∈ L) → ∃ q ∈ Q, kp L m q = kp L m y ∧ leO q y = true ∧ q.length ≤ 9 ∧ ∀ x ∈ q, x ∈ L
theorem few_k {L : Wd} {m : Nat} (g : Wp L m) {Q : List Wd} (hQ : Rp L m Q) {q : List Ent2} (h : ∀ e ∈ q, run (kp L m []) (stepK L m) e.2 = some e.1 ∧ ∀ x ∈ e.2, x ∈ L) (nd : (q.map (·.1)).Nodup) : q.length ≤ 68 ∧ ∀ e ∈ q, e.1 = kp L m e.2 := by
  have hs : ∀ e ∈ q, e.1 = kp L m e.2 := fun e he => by
    have := (h e he).1
    rw [run_kp g.so _ _ rfl (h e he).2] at this
    exact (Option.some.inj this).symm
  refine ⟨?_, hs⟩
  have := nodup_len (q.map (·.1)) (Q.map (kp L m)) nd fun s hs' => by
    obtain ⟨e, he, rfl⟩ := List.mem_map.mp hs'
    obtain ⟨y, hy, h1, _, _⟩ := hQ.2 e.2 (h e he).2
    exact List.mem_map.mpr ⟨y, hy, by rw [h1, hs e he]⟩
  rw [List.length_map, List.length_map] at this
  exact Nat.le_trans this hQ.1
/-- one letter -/
theorem ko_letter (n : Nat) {L : Wd} {m : Nat} (g : Wp L m) {done : List Ent2} {cur : Ent2} {rest : List Ent2} {l1 : Wd} (M : Mid L (kp L m []) (stepK L m) noF done cur rest l1) (hl : (done ++ cur :: rest).length ≤ 68) (hs : ∀ e ∈ done ++ cur :: rest, e.1 = kp L m e.2) (hn : cur.2.length < 100)
    (c : Nat) (hc : c ∈ L) (c6 : Cell) (h6 : NoD c6) :
    ∃ d6, NoD d6 ∧ fb6_0 (callF fns (n + 1)) (KE L m (done ++ cur :: rest) done.length (.fr (.str [c])) c6) =
      (if gone L m cur.1 c ∈ (done ++ cur :: rest).map (·.1) then .ok .next (KE L m (done ++ cur :: rest) done.length (.fr (.str [c])) d6)
        else .ok .next (KE L m ((done ++ cur :: rest) ++ [(gone L m cur.1 c, cur.2 ++ [c])]) done.length (.fr (.str [c])) d6)) := by
  have hLM : LIM = 16777216 := rfl
  have hcur := (M.a cur (by simp)).2
  have ec : cur.1 = kp L m cur.2 := hs cur (by simp)
  have q1 := c_gone n g cur.2 hcur c hc
  rw [← ec] at q1
  generalize ht : gone L m cur.1 c = t at q1
  have nd := M.n
  have hin : cur ∈ done ++ cur :: rest := by simp
  have hi : index (kD (done ++ cur :: rest)) (.int done.length) = some (tupS cur.1) := by
    show atI ((done ++ cur :: rest).map fun e => tupS e.1) (done.length : Int) = _
    rw [atI_nat _ _ (by omega) (by simp; omega), Int.toNat_natCast, List.getElem?_map, List.getElem?_append_right (Nat.le_refl _), Nat.sub_self]
    rfl
  generalize done ++ cur :: rest = q at *
  have fg := get_f nd hin
  have ix : ∀ z6, s2 (oVar 3) (oVar 4) (fun d e => (index d e).map Cell.fr) (KE L m q done.length (.fr (.str [c])) z6) = .ok (.fr (tupS cur.1)) (KE L m q done.length (.fr (.str [c])) z6) := fun z6 =>
    s2_ok (oVar_ok (i := 3) (d := kD q) rfl) (oVar_ok (i := 4) (d := .int done.length) rfl) rfl rfl (by rw [hi]; rfl)
  have p0 : sSet 6 (sCall (callF fns (n + 1)) 5 [] (sCons (fz (sIdx (oVar 3) (oVar 4))) (sCons (fz (sVar 5)) (sCons (fz (sVar 1)) (sNil))))) (KE L m q done.length (.fr (.str [c])) c6) = .ok .next (KE L m q done.length (.fr (.str [c])) (.fr (tupS t))) := by
    refine set_ok (call3v_ok (fz_ok (ix c6) rfl) (sVar_fr (i := 5) (d := .str [c]) rfl) (sVar_fr (i := 1) (d := .int m) rfl) q1) ?_
    rcases h6 with rfl | ⟨y, rfl⟩ <;> rfl
  refine ⟨.fr (tupS t), .inr ⟨_, rfl⟩, ?_⟩
  have cn : sCmp .nin (oVar 6) (oVar 2) (KE L m q done.length (.fr (.str [c])) (.fr (tupS t))) = .ok (!decide (t ∈ q.map (·.1))) (KE L m q done.length (.fr (.str [c])) (.fr (tupS t))) :=
    s2_ok (oVar_ok (i := 6) (d := tupS t) rfl) (oVar_ok (i := 2) (d := fD q) rfl) rfl rfl (nin_f q t)
  unfold fb6_0
  refine seq_to p0 ?_
  by_cases h : t ∈ q.map (·.1)
  · rw [if_pos h]
    rw [decide_eq_true h] at cn
    exact (if_false' cn).trans rfl
  · rw [if_neg h]
    rw [decide_eq_false h] at cn
    refine (if_true' cn).trans ?_
    have wd : ov (sIdx (oVar 2) (ov (sIdx (oVar 3) (oVar 4)))) (KE L m q done.length (.fr (.str [c])) (.fr (tupS t))) = .ok (.val (.str cur.2)) (KE L m q done.length (.fr (.str [c])) (.fr (tupS t))) := by
      refine ov_ok (c := .fr (.str cur.2)) (s2_ok (f := fun d e => (index d e).map Cell.fr) (oVar_ok (i := 2) (d := fD q) rfl) (ov_ok (ix _) rfl) rfl rfl ?_) rfl
      show (if askable (fP q) (tupS cur.1) then dget (fP q) (tupS cur.1) else none).map Cell.fr = _
      rw [if_pos (ask_f q cur.1), fg]
      rfl
    have pl : fz (sBin .add (ov (sIdx (oVar 2) (ov (sIdx (oVar 3) (oVar 4))))) (oVar 5)) (KE L m q done.length (.fr (.str [c])) (.fr (tupS t))) = .ok (.str (cur.2 ++ [c])) (KE L m q done.length (.fr (.str [c])) (.fr (tupS t))) :=
      fz_ok (s2_ok (f := binop .add) wd (oVar_ok (i := 5) (d := .str [c]) rfl) rfl rfl (add_str (by simp; omega))) rfl
    have s1 : sSetItem 2 (fz (sVar 6)) (fz (sBin .add (ov (sIdx (oVar 2) (ov (sIdx (oVar 3) (oVar 4))))) (oVar 5))) (KE L m q done.length (.fr (.str [c])) (.fr (tupS t))) = .ok .next (redo (KE L m q done.length (.fr (.str [c])) (.fr (tupS t))) 2 (fD (q ++ [(t, cur.2 ++ [c])]))) :=
      setItem_ok (d0 := fD q) (d := fD q) pl rfl (sVar_fr (i := 6) rfl) rfl (put_f q t (cur.2 ++ [c]) h (by omega))
    refine seq_to s1 ?_
    have ok := app_ok (i := 3) (m := fz (sVar 6)) (ρ := redo (KE L m q done.length (.fr (.str [c])) (.fr (tupS t))) 2 (fD (q ++ [(t, cur.2 ++ [c])]))) (xs := q.map fun e => tupS e.1) (ys := q.map fun e => tupS e.1) rfl (sVar_fr (i := 6) (d := tupS t) rfl) rfl (by rw [List.length_map]; omega)
    refine ok.trans ?_
    have e : D.lst ((q.map fun e => tupS e.1) ++ [tupS t]) = kD (q ++ [(t, cur.2 ++ [c])]) := by
      unfold kD
      rw [List.map_append]
      rfl
    rw [e]
    rfl
theorem ko_letters (n : Nat) {L : Wd} {m : Nat} (g : Wp L m) {Q : List Wd} (hQ : Rp L m Q) (done : List Ent2) (cur : Ent2) : ∀ (l2 l1 : Wd) (rest : List Ent2) (c5 c6 : Cell), NoD c5 → NoD c6 → L = l1 ++ l2 → Mid L (kp L m []) (stepK L m) noF done cur rest l1 → (∀ e ∈ done ++ cur :: rest, e.2.length < (done ++ cur :: rest).length) →
    ∃ rest' d5 d6, NoD d5 ∧ NoD d6 ∧ Good L (kp L m []) (stepK L m) noF (done ++ [cur]) rest' ∧ (∀ e ∈ (done ++ [cur]) ++ rest', e.2.length < ((done ++ [cur]) ++ rest').length) ∧
      forL (.name 5) (fb6_0 (callF fns (n + 1))) (sing l2) (KE L m (done ++ cur :: rest) done.length c5 c6) = .ok .next (KE L m (done ++ cur :: rest') done.length d5 d6)
  | [], l1, rest, c5, c6, h5, h6, hl, M, hn => by
    rw [List.append_nil] at hl
    subst hl
    exact ⟨rest, c5, c6, h5, h6, M.good, by simpa using hn, rfl⟩
  | c :: l2, l1, rest, c5, c6, h5, h6, hl, M, hn => by
    obtain ⟨fq, fs⟩ := few_k g hQ M.a M.n
    have so' := g.so
    rw [hl] at so'
    obtain ⟨_, s2, s3⟩ := List.pairwise_append.mp so'
    have lt1 : ∀ x ∈ l1, x < c := fun x hx => s3 x hx c List.mem_cons_self
    have hc : c ∈ L := by rw [hl]; simp
    have st : storeS (.name 5) (.str [c]) (KE L m (done ++ cur :: rest) done.length c5 c6) = .ok .next (KE L m (done ++ cur :: rest) done.length (.fr (.str [c])) c6) := by
      rcases h5 with rfl | ⟨y, rfl⟩ <;> rfl
    have hcur := hn cur (by simp)
    obtain ⟨d6, k6, q⟩ := ko_letter n g M fq fs (by omega) c hc c6 h6
    by_cases ht : gone L m cur.1 c ∈ (done ++ cur :: rest).map (·.1)
    · rw [if_pos ht] at q
      have M' := M.old rfl (fun t ht' => by cases ht'; exact ht) lt1
      obtain ⟨r', d5, e6, k5, k7, h1, h2, h3⟩ := ko_letters n g hQ done cur l2 (l1 ++ [c]) rest (.fr (.str [c])) d6 (.inr ⟨_, rfl⟩) k6 (by rw [hl]; simp) M' hn
      exact ⟨r', d5, e6, k5, k7, h1, h2, (forL_next st q).trans h3⟩
    · rw [if_neg ht] at q
      have M' := M.new rfl rfl ht lt1 hc
      have eq : (done ++ cur :: rest) ++ [(gone L m cur.1 c, cur.2 ++ [c])] = done ++ cur :: (rest ++ [(gone L m cur.1 c, cur.2 ++ [c])]) := by simp
      rw [eq] at q
      obtain ⟨r', d5, e6, k5, k7, h1, h2, h3⟩ := ko_letters n g hQ done cur l2 (l1 ++ [c]) (rest ++ [(gone L m cur.1 c, cur.2 ++ [c])]) (.fr (.str [c])) d6 (.inr ⟨_, rfl⟩) k6 (by rw [hl]; simp) M' (fun e he => by
        rw [← eq] at he ⊢
        rw [List.length_append]
        rcases List.mem_append.mp he with he | he
        · have := hn e he; simp; simp at this; omega
        · simp at he
          subst he
          simp
          simp at hcur
          omega)
      exact ⟨r', d5, e6, k5, k7, h1, h2, (forL_next st q).trans h3⟩
theorem ko_loop (n : Nat) {L : Wd} {m : Nat} (g : Wp L m) {Q : List Wd} (hQ : Rp L m Q) : ∀ (k fuel : Nat) (done rest : List Ent2) (c5 c6 : Cell), NoD c5 → NoD c6 → Good L (kp L m []) (stepK L m) noF done rest → (∀ e ∈ done ++ rest, e.2.length < (done ++ rest).length) → 69 ≤ k + done.length → k < fuel →
    ∃ q at_ d5 d6, NoD d5 ∧ NoD d6 ∧ Good L (kp L m []) (stepK L m) noF q [] ∧ whileL (fb6_2 (callF fns (n + 1))) (fb6_1 (callF fns (n + 1))) fuel (KE L m (done ++ rest) done.length c5 c6) = .ok .next (KE L m q at_ d5 d6)
  | k, 0, done, rest, c5, c6, _, _, _, _, _, hf => absurd hf (by omega)
  | 0, fuel + 1, done, rest, c5, c6, h5, h6, G, hn, hk, hf => by
    have := (few_k g hQ G.a G.n).1
    rw [List.length_append] at this
    omega
  | k + 1, fuel + 1, done, rest, c5, c6, h5, h6, G, hn, hk, hf => by
    have cnd : fb6_2 (callF fns (n + 1)) (KE L m (done ++ rest) done.length c5 c6) = .ok (decide (done.length < (done ++ rest).length)) (KE L m (done ++ rest) done.length c5 c6) := by
      show s2 (oVar 4) (ov (sB bLen (oCons (oVar 3) oNil))) (cmpop .lt) (KE L m (done ++ rest) done.length c5 c6) = _
      refine s2_ok (ρ := KE L m (done ++ rest) done.length c5 c6) (oVar_ok (i := 4) (d := .int done.length) rfl) (ov_ok (sB1_var (f := bLen) (i := 3) (d := kD (done ++ rest)) (r := .fr (.int (done ++ rest).length)) rfl ?_) rfl) rfl rfl ?_
      · show some (Cell.fr (.int (((done ++ rest).map fun e => tupS e.1).length : Nat))) = _
        rw [List.length_map]
      · show some (decide ((done.length : Int) < ((done ++ rest).length : Int))) = _
        congr 1
        rw [Bool.eq_iff_iff, decide_eq_true_eq, decide_eq_true_eq]
        omega
    cases rest with
    | nil =>
      rw [decide_eq_false (by simp)] at cnd
      rw [List.append_nil] at cnd ⊢
      exact ⟨done, done.length, c5, c6, h5, h6, G, while_end cnd⟩
    | cons cur rest =>
      rw [decide_eq_true (by simp)] at cnd
      obtain ⟨r', d5, d6, k5, k6, h1, h2, h3⟩ := ko_letters n g hQ done cur L [] rest c5 c6 h5 h6 rfl G.mid hn
      have p2 : sAug 4 .add (ov (sK (.int 1))) (KE L m (done ++ cur :: r') done.length d5 d6) = .ok .next (KE L m ((done ++ [cur]) ++ r') (done ++ [cur]).length d5 d6) := by
        have e1 : (done ++ [cur]) ++ r' = done ++ cur :: r' := by simp
        have e2 : (done ++ [cur]).length = done.length + 1 := by simp
        rw [e1, e2]
        rfl
      obtain ⟨q, at_, e5, e6, z5, z6, y1, y2⟩ := ko_loop n g hQ k fuel (done ++ [cur]) r' d5 d6 k5 k6 h1 h2 (by simp; omega) (by omega)
      refine ⟨q, at_, e5, e6, z5, z6, y1, while_go cnd ?_ y2⟩
      unfold fb6_1
      exact seq_to ((for_ok rfl).trans h3) p2
/-- kinds_of -/
theorem c_kinds (n : Nat) {L : Wd} {m : Nat} (g : Wp L m) {Q : List Wd} (hQ : Rp L m Q) : ∃ q : List Ent2, Good L (kp L m []) (stepK L m) noF q [] ∧ callF fns (n + 2) 6 [.fr (.str L), .fr (.int m)] = .ok (.ow (toD (q.map (·.2)))) [] := by
  have hLM : LIM = 16777216 := rfl
  have G0 : Good L (kp L m []) (stepK L m) noF [] [(kp L m [], [])] := Good.start
  obtain ⟨q, at_, d5, d6, k5, k6, G, w⟩ := ko_loop n g hQ 69 FUEL [] [(kp L m [], [])] .no .no (.inl rfl) (.inl rfl) G0 (by simp) (by simp) (by have : FUEL = 1000000000 := rfl; omega)
  refine ⟨q, G, ?_⟩
  have fq := (few_k g hQ (q := q) (by have := G.a; simpa using this) (by have := G.n; simpa using this)).1
  have nd : (q.map (·.1)).Nodup := by have := G.n; simpa using this
  have m1 := comp_map (i := 6) (it := iSeq (fz (sVar 3))) (elt := fb6_3 (callF fns (n + 1))) (g := fun d => (dget (fP q) d).getD .non) (ρ := KE L m q at_ d5 d6) (ρ1 := [.fr (.str L), .fr (.int m), .ow (fD q), .fr (kD q), .fr (.int at_), d5, d6]) (ds := q.map fun e => tupS e.1) (c := d6)
    (iSeq_ok (sVar_ow (i := 3) (d := kD q) rfl) rfl) rfl k6 (by rw [List.length_map]; omega)
    (fun d hd => by
      obtain ⟨e, he, rfl⟩ := List.mem_map.mp hd
      refine fz_ok (c := .fr ((dget (fP q) (tupS e.1)).getD .non)) (s2_ok (f := fun d e => (index d e).map Cell.fr) (oVar_ok (i := 2) (d := fD q) rfl) (oVar_ok (i := 6) (d := tupS e.1) rfl) rfl rfl ?_) rfl
      show (if askable (fP q) (tupS e.1) then dget (fP q) (tupS e.1) else none).map Cell.fr = _
      rw [if_pos (ask_f q e.1), get_f nd he]
      rfl)
  have em : (q.map fun e => tupS e.1).map (fun d => (dget (fP q) d).getD .non) = (q.map (·.2)).map D.str := by
    rw [List.map_map, List.map_map]
    refine List.map_congr_left fun e he => ?_
    show (dget (fP q) (tupS e.1)).getD .non = .str e.2
    rw [get_f nd he]
    rfl
  rw [em] at m1
  rw [call_eq (n + 1) 6 _ _ rfl]
  generalize hG : FUEL = Gf at w
  have e0 : tupS (kp L m []) = .tup [.str []] := by rw [kp_nil]; rfl
  have st0 : KE L m [(kp L m [], [])] 0 .no .no = [.fr (.str L), .fr (.int m), .ow (.dic [(.tup [.str []], .str [])]), .ow (.lst [.tup [.str []]]), .fr (.int 0), .no, .no] := by
    unfold KE fD fP kD
    rw [List.map_cons, List.map_cons, List.map_nil, List.map_nil, e0]
    rfl
  have w' : whileL (fb6_2 (callF fns (n + 1))) (fb6_1 (callF fns (n + 1))) Gf (KE L m [(kp L m [], [])] 0 .no .no) = .ok .next (KE L m q at_ d5 d6) := w
  rw [st0] at w'
  have hh : fb6 (callF fns (n + 1)) [.fr (.str L), .fr (.int m), .no, .no, .no, .no, .no] = .ok (.ret (.ow (toD (q.map (·.2))))) [.fr (.str L), .fr (.int m), .ow (fD q), .fr (kD q), .fr (.int at_), d5, d6] := by
    unfold fb6
    rw [hG]
    exact seq_to (ρ1 := [.fr (.str L), .fr (.int m), .ow (.dic [(.tup [.str []], .str [])]), .no, .no, .no, .no]) rfl
      (seq_to (ρ1 := [.fr (.str L), .fr (.int m), .ow (.dic [(.tup [.str []], .str [])]), .ow (.lst [.tup [.str []]]), .no, .no, .no]) rfl
        (seq_to (ρ1 := [.fr (.str L), .fr (.int m), .ow (.dic [(.tup [.str []], .str [])]), .ow (.lst [.tup [.str []]]), .fr (.int 0), .no, .no]) rfl (seq_to w' (sRet_ok m1))))
  exact run_r hh rfl rfl rfl rfl
end K68
/-! k68: what kinds_of tells; least_same, _law_kind. -/
namespace K68
open DL Bfs
/-- the least words of all kinds -/
structure Rs (L : Wd) (m : Nat) (W : List Wd) : Prop where
  so : W.Pairwise fun a b => ltO a b = true
  let_ : ∀ p ∈ W, ∀ x ∈ p, x ∈ L
  rep : ∀ y : Wd, (∀ x ∈ y, x ∈ L) → ∃ p ∈ W, kp L m p = kp L m y ∧ leO p y = true
  uniq : ∀ p ∈ W, ∀ p' ∈ W, kp L m p = kp L m p' → p = p'
  len : ∀ p ∈ W, p.length ≤ 9
  few : W.length ≤ 68
theorem rs_of {L : Wd} {m : Nat} (g : Wp L m) {Q : List Wd} (hQ : Rp L m Q) {q : List Ent2} (G : Good L (kp L m []) (stepK L m) noF q []) : Rs L m (q.map (·.2)) := by
  have ha := G.a
  have hn := G.n
  rw [List.append_nil] at ha hn
  obtain ⟨f1, f2⟩ := few_k g hQ ha hn
  have rep : ∀ y : Wd, (∀ x ∈ y, x ∈ L) → ∃ e ∈ q, e.1 = kp L m y ∧ leO e.2 y = true := fun y hy => by
    obtain ⟨p, hp, hle⟩ := G.all _ y _ rfl hy (run_kp g.so _ y rfl hy)
    exact ⟨_, hp, rfl, hle⟩
  have one : ∀ e ∈ q, ∀ f ∈ q, e.1 = f.1 → e = f := fun e he f hf h => by
    obtain ⟨i, hi, rfl⟩ := List.mem_iff_getElem.mp he
    obtain ⟨j, hj, rfl⟩ := List.mem_iff_getElem.mp hf
    have hij : i = j := by
      have h1 : (q.map (·.1))[i]'(by simpa using hi) = (q.map (·.1))[j]'(by simpa using hj) := by simpa using h
      exact (List.getElem_inj hn).mp h1
    subst hij
    rfl
  refine ⟨?_, fun p hp => ?_, fun y hy => ?_, fun p hp p' hp' h => ?_, fun p hp => ?_, by rw [List.length_map]; exact f1⟩
  · have := G.b
    rw [List.append_nil] at this
    exact List.pairwise_map.mpr this
  · obtain ⟨e, he, rfl⟩ := List.mem_map.mp hp
    exact (ha e he).2
  · obtain ⟨e, he, h1, h2⟩ := rep y hy
    exact ⟨e.2, List.mem_map.mpr ⟨e, he, rfl⟩, by rw [← f2 e he, h1], h2⟩
  · obtain ⟨e, he, rfl⟩ := List.mem_map.mp hp
    obtain ⟨f, hf, rfl⟩ := List.mem_map.mp hp'
    rw [← f2 e he, ← f2 f hf] at h
    rw [one e he f hf h]
  · obtain ⟨e, he, rfl⟩ := List.mem_map.mp hp
    obtain ⟨y, hy, h1, h2, h3, hyl⟩ := hQ.2 e.2 (ha e he).2
    obtain ⟨f, hf, h4, h5⟩ := rep y hyl
    have : f = e := one f hf e he (by rw [h4, h1, f2 e he])
    subst this
    have := length_le h5
    omega
theorem Rs.head {L : Wd} {m : Nat} {W : List Wd} (r : Rs L m W) : ∃ t, W = [] :: t := by
  obtain ⟨p, hp, _, h2⟩ := r.rep [] (by simp)
  have : p = [] := by
    have := length_le h2
    exact List.length_eq_zero_iff.mp (by simpa using this)
  subst this
  cases W with
  | nil => cases hp
  | cons a t =>
    rcases List.mem_cons.mp hp with h | h
    · exact ⟨t, by rw [h]⟩
    · have := (List.pairwise_cons.mp r.so).1 [] h
      rcases ltO_iff.mp this with z | ⟨z, z2⟩
      · simp at z
      · have : a = [] := List.length_eq_zero_iff.mp (by simpa using z)
        exact ⟨t, by rw [this]⟩
/-! ### _law_kind -/
def kl (m : Nat) (w : Wd) : List Wd := (pcs w).filter fun p => decide (p.length ≤ m)
theorem kl_mem {m : Nat} {w p : Wd} : p ∈ kl m w ↔ p.Sublist w ∧ p.length ≤ m := by
  unfold kl
  rw [List.mem_filter, pcs_mem, decide_eq_true_eq]
theorem kl_kp {L : Wd} {m : Nat} (g : Wp L m) {u v : Wd} (hu : ∀ x ∈ u, x ∈ L) (hv : ∀ x ∈ v, x ∈ L) : kl m u = kl m v ↔ kp L m u = kp L m v := by
  rw [kp_eq g.so hu hv]
  constructor
  · intro h p hp
    have h1 : p ∈ kl m u ↔ p ∈ kl m v := by rw [h]
    rw [kl_mem, kl_mem] at h1
    constructor
    · exact fun z => (h1.mp ⟨z, hp⟩).1
    · exact fun z => (h1.mpr ⟨z, hp⟩).1
  · intro h
    have so : ∀ w : Wd, (kl m w).Pairwise fun a b => leS a b = true := fun w => (pcs_so w).filter _
    have nd : ∀ w : Wd, (kl m w).Nodup := fun w => (pcs_nd w).filter _
    have pm : (kl m u).Perm (kl m v) := (List.perm_ext_iff_of_nodup (nd u) (nd v)).mpr fun p => by
      rw [kl_mem, kl_mem]
      exact ⟨fun z => ⟨(h p z.2).mp z.1, z.2⟩, fun z => ⟨(h p z.2).mpr z.1, z.2⟩⟩
    exact List.Perm.eq_of_pairwise (fun a b _ _ h1 h2 => leS_an a b h1 h2) (so u) (so v) pm
theorem pcs_len (w : Wd) (h : w.length < 11) : (pcs w).length ≤ 1024 := by
  have h1 := nodup_len (pcs w) (Sb w) (pcs_nd w) fun k hk => (Sb_mem w k).mpr ((pcs_mem w k).mp hk)
  have h2 : (Sb w).length = 1 * 2 ^ w.length := dbl_len w [[]]
  have h3 : 2 ^ w.length ≤ 2 ^ 10 := Nat.pow_le_pow_right (by omega) (by omega)
  have h4 : (2 : Nat) ^ 10 = 1024 := rfl
  omega
theorem c_kind (n : Nat) (w : Wd) (hw : w.length < 11) (m : Nat) : callF fns (n + 2) 13 [.fr (.str w), .fr (.int m)] = .ok (.fr (tupS (kl m w))) [] := by
  have hLM : LIM = 16777216 := rfl
  have q1 := c_left n w hw
  have n1 := pcs_len w hw
  have m1 := comp_filter (i := 2) (it := iSeq (fz (sCall (callF fns (n + 1)) 12 [] (sCons (fz (sVar 0)) (sNil))))) (cond := fb13_0 (callF fns (n + 1))) (elt := fb13_1 (callF fns (n + 1))) (p := fun d => match d with | .str p => decide (p.length ≤ m) | _ => false) (ρ := [.fr (.str w), .fr (.int m), .no]) (ρ1 := [.fr (.str w), .fr (.int m), .no]) (ds := (pcs w).map D.str) (c := .no)
    (iSeq_ok (d := toD (pcs w)) (fz_ok (call1v_ok (sVar_fr (i := 0) (d := .str w) rfl) q1) rfl) rfl) rfl (.inl rfl) (by rw [List.length_map]; omega)
    (fun d hd => by
      obtain ⟨p, hp, rfl⟩ := List.mem_map.mp hd
      have hpl := ((pcs_mem w p).mp hp).length_le
      exact ⟨s2_ok (ρ := [.fr (.str w), .fr (.int m), .fr (.str p)]) (ov_ok (sB1_var (f := bLen) (i := 2) (d := .str p) rfl (str_len (by omega))) rfl) (oVar_ok (i := 1) (d := .int m) rfl) rfl rfl (by
          show some (decide ((p.length : Int) ≤ (m : Int))) = some (decide (p.length ≤ m))
          congr 1
          rw [Bool.eq_iff_iff, decide_eq_true_eq, decide_eq_true_eq]
          omega), sVar_fr (i := 2) rfl⟩)
  have e6 : ((pcs w).map D.str).filter (fun d => match d with | .str p => decide (p.length ≤ m) | _ => false) = (kl m w).map D.str := by
    unfold kl
    rw [List.filter_map]
    rfl
  rw [e6] at m1
  rw [call_eq (n + 1) 13 _ _ rfl]
  have hh : fb13 (callF fns (n + 1)) [.fr (.str w), .fr (.int m), .no] = .ok (.ret (.fr (tupS (kl m w)))) [.fr (.str w), .fr (.int m), .no] := sRet_ok (sB1_ok (f := bTuple) m1 rfl rfl)
  exact run_r hh rfl rfl rfl rfl
/-! ### lists of texts compared -/
theorem eqv_strs : ∀ a b : List Wd, D.eqvL (a.map D.str) (b.map D.str) = decide (a = b)
  | [], [] => rfl
  | [], _ :: _ => rfl
  | _ :: _, [] => rfl
  | x :: xs, y :: ys => by
    show ((x == y) && D.eqvL (xs.map D.str) (ys.map D.str)) = _
    rw [eqv_strs xs ys, Bool.eq_iff_iff, Bool.and_eq_true, beq_iff_eq, decide_eq_true_eq, decide_eq_true_eq]
    constructor
    · rintro ⟨rfl, rfl⟩; rfl
    · intro h
      cases h
      exact ⟨rfl, rfl⟩
def smallS (a : List Wd) : Prop := ∀ w ∈ a, ∀ c ∈ w, c < 1000
theorem plainL_all : ∀ {xs : List D}, (∀ x ∈ xs, x.plain = true) → D.plainL xs = true
  | [], _ => rfl
  | x :: xs, h => by
    unfold D.plainL
    rw [h x List.mem_cons_self, plainL_all fun y hy => h y (List.mem_cons_of_mem _ hy)]
    rfl
theorem depthL_all {k : Nat} : ∀ {xs : List D}, (∀ x ∈ xs, x.depth ≤ k) → D.depthL xs ≤ k
  | [], _ => Nat.zero_le _
  | x :: xs, h => by
    unfold D.depthL
    have h1 := h x List.mem_cons_self
    have h2 := depthL_all fun y hy => h y (List.mem_cons_of_mem _ hy)
    omega
theorem plain_strs {a : List Wd} (h : smallS a) : D.plainL (a.map D.str) = true := by
  refine plainL_all fun x hx => ?_
  obtain ⟨w, hw, rfl⟩ := List.mem_map.mp hx
  show (w.all fun c => decide (c < 0x110000)) = true
  rw [List.all_eq_true]
  intro c hc
  have := h w hw c hc
  rw [decide_eq_true_eq]
  omega
theorem depth_strs (a : List Wd) : D.depthL (a.map D.str) ≤ 0 := depthL_all fun x hx => by
  obtain ⟨w, _, rfl⟩ := List.mem_map.mp hx
  exact Nat.le_refl _
theorem eq_tupS {a b : List Wd} (ha : smallS a) (hb : smallS b) : cmpop .eq (tupS a) (tupS b) = some (decide (a = b)) := by
  have p1 : (tupS a).plain = true := plain_strs ha
  have p2 : (tupS b).plain = true := plain_strs hb
  have d1 : (tupS a).depth ≤ 64 := by have := depth_strs a; show D.depthL _ + 1 ≤ 64; omega
  have d2 : (tupS b).depth ≤ 64 := by have := depth_strs b; show D.depthL _ + 1 ≤ 64; omega
  show (if (tupS a).plain && (tupS b).plain && decide ((tupS a).depth ≤ 64) && decide ((tupS b).depth ≤ 64) then some ((tupS a).eqv (tupS b)) else none) = _
  rw [p1, p2, decide_eq_true d1, decide_eq_true d2]
  show some (D.eqvL (a.map D.str) (b.map D.str)) = _
  rw [eqv_strs]
theorem ne_toD {a b : List Wd} (ha : smallS a) (hb : smallS b) : cmpop .ne (toD a) (toD b) = some (!decide (a = b)) := by
  have p1 : (toD a).plain = true := plain_strs ha
  have p2 : (toD b).plain = true := plain_strs hb
  have d1 : (toD a).depth ≤ 64 := by have := depth_strs a; show D.depthL _ + 1 ≤ 64; omega
  have d2 : (toD b).depth ≤ 64 := by have := depth_strs b; show D.depthL _ + 1 ≤ 64; omega
  show (if (toD a).plain && (toD b).plain && decide ((toD a).depth ≤ 64) && decide ((toD b).depth ≤ 64) then some (!(toD a).eqv (toD b)) else none) = _
  rw [p1, p2, decide_eq_true d1, decide_eq_true d2]
  show some (!D.eqvL (a.map D.str) (b.map D.str)) = _
  rw [eqv_strs]
theorem small_kp {L : Wd} {m : Nat} (g : Wp L m) (w : Wd) : smallS (kp L m w) := fun p hp c hc => g.sm c (((Ws_mem L m p).mp (List.mem_filter.mp hp).1).2 c hc)
theorem small_let {L : Wd} {m : Nat} (g : Wp L m) {W : List Wd} (h : ∀ p ∈ W, ∀ x ∈ p, x ∈ L) : smallS W := fun p hp c hc => g.sm c (h p hp c hc)
/-! ### least_same -/
theorem c_pieces (n : Nat) {L : Wd} {m : Nat} (g : Wp L m) (w : Wd) (hw : w.length < 12) (hi : ∀ x ∈ w, x ∈ L) : callF fns (n + 1) 4 [.fr (.str w), .fr (.int m)] = .ok (.ow (toD (kp L m w))) [] := by
  obtain ⟨ks, hk, q⟩ := c_upto_p n w hw m
  rw [up_kp g.so hi hk] at q
  exact q
theorem Rs.filter {L : Wd} {m : Nat} {W : List Wd} (r : Rs L m W) {p : Wd} (hp : p ∈ W) : W.filter (fun x => decide (kp L m x = kp L m p)) = [p] := by
  refine so_eq (r.so.filter _) (by simp) fun x => ?_
  rw [List.mem_filter, decide_eq_true_eq, List.mem_singleton]
  constructor
  · rintro ⟨h1, h2⟩
    exact r.uniq x h1 p hp h2
  · rintro rfl
    exact ⟨hp, rfl⟩
theorem c_least (n : Nat) {L : Wd} {m : Nat} (g : Wp L m) {Q : List Wd} (hQ : Rp L m Q) {W : List Wd} (hW : callF fns (n + 2) 6 [.fr (.str L), .fr (.int m)] = .ok (.ow (toD W)) []) (r : Rs L m W) (w : Wd) (hw : w.length < 12) (hi : ∀ x ∈ w, x ∈ L) {p : Wd} (hp : p ∈ W) (hk : kp L m p = kp L m w) :
    callF fns (n + 3) 7 [.fr (.str L), .fr (.str w), .fr (.int m)] = .ok (.fr (.str p)) [] := by
  have hLM : LIM = 16777216 := rfl
  have q1 := c_pieces (n + 1) g w hw hi
  simp only [show n + 1 + 1 = n + 2 from rfl] at q1
  have p0 : sSet 3 (sB bTuple (oCons (ov (sCall (callF fns (n + 2)) 4 [] (sCons (fz (sVar 1)) (sCons (fz (sVar 2)) (sNil))))) (oNil))) [.fr (.str L), .fr (.str w), .fr (.int m), .no, .no] = .ok .next [.fr (.str L), .fr (.str w), .fr (.int m), .fr (tupS (kp L m w)), .no] :=
    set_ok (sB1_ok (f := bTuple) (call2v_ok (sVar_fr (i := 1) (d := .str w) rfl) (sVar_fr (i := 2) (d := .int m) rfl) q1) rfl rfl) rfl
  have m1 := comp_filter (i := 4) (it := iSeq (fz (sCall (callF fns (n + 2)) 6 [] (sCons (fz (sVar 0)) (sCons (fz (sVar 2)) (sNil)))))) (cond := fb7_0 (callF fns (n + 2))) (elt := fb7_1 (callF fns (n + 2))) (p := fun d => match d with | .str x => decide (kp L m x = kp L m w) | _ => false) (ρ := [.fr (.str L), .fr (.str w), .fr (.int m), .fr (tupS (kp L m w)), .no]) (ρ1 := [.fr (.str L), .fr (.str w), .fr (.int m), .fr (tupS (kp L m w)), .no]) (ds := W.map D.str) (c := .no)
    (iSeq_ok (d := toD W) (fz_ok (call2v_ok (sVar_fr (i := 0) (d := .str L) rfl) (sVar_fr (i := 2) (d := .int m) rfl) hW) rfl) rfl) rfl (.inl rfl) (by rw [List.length_map]; have := r.few; omega)
    (fun d hd => by
      obtain ⟨x, hx, rfl⟩ := List.mem_map.mp hd
      have q2 := c_pieces (n + 1) g x (by have := r.len x hx; omega) (r.let_ x hx)
      simp only [show n + 1 + 1 = n + 2 from rfl] at q2
      exact ⟨s2_ok (ρ := [.fr (.str L), .fr (.str w), .fr (.int m), .fr (tupS (kp L m w)), .fr (.str x)]) (ov_ok (sB1_ok (f := bTuple) (call2v_ok (Γ := callF fns (n + 2)) (sVar_fr (i := 4) (d := .str x) rfl) (sVar_fr (i := 2) (d := .int m) rfl) q2) rfl rfl) rfl) (oVar_ok (i := 3) (d := tupS (kp L m w)) rfl) rfl rfl (eq_tupS (small_kp g x) (small_kp g w)), sVar_fr (i := 4) rfl⟩)
  have e6 : (W.map D.str).filter (fun d => match d with | .str x => decide (kp L m x = kp L m w) | _ => false) = [.str p] := by
    have h1 : (W.map D.str).filter (fun d => match d with | .str x => decide (kp L m x = kp L m w) | _ => false) = (W.filter fun x => decide (kp L m x = kp L m w)).map D.str := by
      rw [List.filter_map]
      rfl
    rw [h1, ← hk, r.filter hp]
    rfl
  rw [e6] at m1
  rw [call_eq (n + 2) 7 _ _ rfl]
  have hh : fb7 (callF fns (n + 2)) [.fr (.str L), .fr (.str w), .fr (.int m), .no, .no] = .ok (.ret (.fr (.str p))) [.fr (.str L), .fr (.str w), .fr (.int m), .fr (tupS (kp L m w)), .no] := by
    unfold fb7
    exact seq_to p0 (sRet_ok (s2_ok (f := fun d e => (index d e).map Cell.fr) (ov_ok m1 rfl) (ov_ok (m := sK (.int 0)) rfl rfl) rfl rfl rfl))
  exact run_r hh rfl rfl rfl rfl
end K68
/-! k68, the law. -/
namespace K68
open DL Bfs
theorem put_any {i : Nat} {ρ : Env} {c d : Cell} (h : ρ[i]? = some c) (hc : NoO2 c) (hd : outC d = true) : put i d ρ = some (ρ.set i d) := by
  unfold put
  rw [h]
  rcases hc with rfl | ⟨y, rfl⟩ | ⟨y, rfl⟩ <;> cases d <;> first | rfl | cases hd
theorem NoD.o2 {c : Cell} (h : NoD c) : NoO2 c := h.elim .inl fun z => .inr (.inl z)
theorem head_ix (v : Wd) (S : List Wd) : index (toD (v :: S)) (.int 0) = some (.str v) := by
  show atI _ (0 : Int) = _
  rw [atI_nat _ _ (by omega) (by simp)]
  rfl
/-- the law's frame -/
def GE (s : D) (nums : List Int) (a : Int) (c2 c3 c4 c5 c6 c7 c8 c9 c10 c11 c12 c13 c14 : Cell) : Env := [.fr s, .ow (draws nums a), c2, c3, c4, c5, c6, c7, c8, c9, c10, c11, c12, c13, c14]
/-! ### dicts from kinds to words -/
def mkP (m : Nat) (ys : List Wd) : List (D × D) := ys.map fun p => (tupS (kl m p), .str p)
def mkD (m : Nat) (ys : List Wd) : D := .dic (mkP m ys)
theorem ask_mk (m : Nat) (ys : List Wd) (s : List Wd) : askable (mkP m ys) (tupS s) = true := by
  unfold askable
  have h2 : ((mkP m ys).all fun p => keyT p.1) = true := by
    unfold mkP
    rw [List.all_map, List.all_eq_true]
    exact fun e _ => keyT_S _
  rw [keyT_S, h2]
  simp
theorem any_mk (m : Nat) (s : List Wd) : ∀ ys : List Wd, ((mkP m ys).any fun p => decide (p.1 = tupS s)) = ys.any fun p => decide (kl m p = s)
  | [] => rfl
  | y :: ys => by
    show (decide (tupS (kl m y) = tupS s) || ((mkP m ys).any fun p => decide (p.1 = tupS s))) = _
    rw [any_mk m s ys, List.any_cons]
    congr 1
    rw [Bool.eq_iff_iff, decide_eq_true_eq, decide_eq_true_eq]
    exact ⟨tupS_inj, fun h => by rw [h]⟩
theorem get_mk (m : Nat) : ∀ {ys : List Wd} {p : Wd}, (∀ q ∈ ys, kl m q = kl m p → q = p) → p ∈ ys → dget (mkP m ys) (tupS (kl m p)) = some (.str p)
  | y :: ys, p, hu, hp => by
    unfold dget mkP
    rw [List.map_cons, List.find?_cons]
    by_cases h : kl m y = kl m p
    · have := hu y List.mem_cons_self h
      subst this
      rw [decide_eq_true rfl]
      rfl
    · rw [decide_eq_false fun z => h (tupS_inj z)]
      rcases List.mem_cons.mp hp with rfl | hp
      · exact (h rfl).elim
      · exact get_mk m (fun q hq => hu q (List.mem_cons_of_mem _ hq)) hp
theorem fold_put : ∀ (ps acc : List (D × D)), ((acc ++ ps).map (·.1)).Nodup → ps.foldl (fun acc p => dput acc p.1 p.2) acc = acc ++ ps
  | [], acc, _ => by simp
  | p :: ps, acc, nd => by
    have e : acc ++ p :: ps = (acc ++ [p]) ++ ps := by simp
    have hp : ¬ (acc.any fun q => decide (q.1 = p.1)) = true := fun h => by
      obtain ⟨q, hq, h1⟩ := List.any_eq_true.mp h
      rw [decide_eq_true_eq] at h1
      rw [List.map_append, List.map_cons] at nd
      exact (List.nodup_append.mp nd).2.2 q.1 (List.mem_map.mpr ⟨q, hq, rfl⟩) p.1 List.mem_cons_self h1
    rw [List.foldl_cons]
    have d : dput acc p.1 p.2 = acc ++ [p] := by
      unfold dput
      rw [if_neg hp]
    rw [d, e]
    exact fold_put ps (acc ++ [p]) (by rw [← e]; exact nd)
/-- kinds are told apart by their lists -/
theorem Rs.kl_one {L : Wd} {m : Nat} {W : List Wd} (g : Wp L m) (r : Rs L m W) {p q : Wd} (hp : p ∈ W) (hq : q ∈ W) (h : kl m p = kl m q) : p = q := r.uniq p hp q hq ((kl_kp g (r.let_ p hp) (r.let_ q hq)).mp h)
theorem pairs_mk (m : Nat) : ∀ W : List Wd, pairsD (W.map fun p => D.tup [tupS (kl m p), .str p]) = some (mkP m W)
  | [] => rfl
  | p :: W => by
    show (pairsD (W.map fun p => D.tup [tupS (kl m p), .str p])).map _ = _
    rw [pairs_mk m W]
    rfl
theorem mk_nd {L : Wd} {m : Nat} {W : List Wd} (g : Wp L m) (r : Rs L m W) : ((mkP m W).map (·.1)).Nodup := by
  unfold mkP
  rw [List.map_map]
  have h : ∀ V : List Wd, V.Nodup → (∀ p ∈ V, p ∈ W) → (V.map ((fun x : D × D => x.1) ∘ fun p => (tupS (kl m p), D.str p))).Nodup := by
    intro V
    induction V with
    | nil => intro _ _; exact List.nodup_nil
    | cons p V ih =>
      intro nd hV
      obtain ⟨n1, n2⟩ := List.nodup_cons.mp nd
      rw [List.map_cons]
      refine List.nodup_cons.mpr ⟨fun h => ?_, ih n2 fun q hq => hV q (List.mem_cons_of_mem _ hq)⟩
      obtain ⟨q, hq, e⟩ := List.mem_map.mp h
      have := tupS_inj e
      have := r.kl_one g (hV q (List.mem_cons_of_mem _ hq)) (hV p List.mem_cons_self) this
      subst this
      exact n1 hq
  exact h W (so_nd r.so) fun p hp => hp
/-- kinds and marks -/
theorem g_kinds (s : D) (nums : List Int) (a : Int) (c2 c5 c6 c7 c8 c9 c10 c11 c12 c13 c14 : Cell) (h5 : NoO2 c5) (h6 : NoO2 c6) (h7 : NoD c7) (h8 : NoO2 c8) {L : Wd} {m : Nat} (g : Wp L m) {Q : List Wd} (hQ : Rp L m Q) :
    ∃ W, Rs L m W ∧ callF fns 58 6 [.fr (.str L), .fr (.int m)] = .ok (.ow (toD W)) [] ∧ ∀ k : Sem Flow, seq (sSet 5 (sCall (callF fns 59) 6 [] (sCons (fz (sVar 3)) (sCons (fz (sVar 4)) (sNil))))) (seq (sIf (sOr (sCmp .ne (ov (sIdx (oVar 5) (ov (sK (.int 0))))) (ov (sK (.str [])))) (sCmp .ne (oVar 5) (ov (sB bSortLen (oCons (ov (sB bSorted (oCons (oVar 5) (oNil)))) (oNil)))))) (sRet (sK (.bl false))) (skip)) (seq (sSet 6 (sB bDictP (oCons (ov (sComp [7] (.name 7) (iSeq (fz (sVar 5))) (sYes) (fb14_0 (callF fns 59)))) (oNil)))) (seq (sIf (sCmp .ne (ov (sB bLen (oCons (oVar 6) (oNil)))) (ov (sB bLen (oCons (oVar 5) (oNil))))) (sRet (sK (.bl false))) (skip)) (seq (sSet 8 (sDict0)) k)))) (GE s nums a c2 (.fr (.str L)) (.fr (.int (m : Int))) c5 c6 c7 c8 c9 c10 c11 c12 c13 c14) = k (GE s nums a c2 (.fr (.str L)) (.fr (.int (m : Int))) (.fr (toD W)) (.ow (mkD m W)) c7 (.ow (.dic [])) c9 c10 c11 c12 c13 c14) := by
  have hLM : LIM = 16777216 := rfl
  obtain ⟨q, GG, q1⟩ := c_kinds 56 g hQ
  obtain ⟨q', GG', q1'⟩ := c_kinds 57 g hQ
  simp only [show 56 + 2 = 58 from rfl, show 57 + 2 = 59 from rfl] at q1 q1'
  have r := rs_of g hQ GG
  have r' := rs_of g hQ GG'
  have same : q'.map (·.2) = q.map (·.2) := by
    refine so_eq r'.so r.so fun x => ⟨fun hx => ?_, fun hx => ?_⟩
    · obtain ⟨p, hp, h1, h2⟩ := r.rep x (r'.let_ x hx)
      obtain ⟨p', hp', h3, h4⟩ := r'.rep p (r.let_ p hp)
      have := r'.uniq p' hp' x hx (by rw [h3, h1])
      subst this
      rwa [leO_anti h4 h2]
    · obtain ⟨p, hp, h1, h2⟩ := r'.rep x (r.let_ x hx)
      obtain ⟨p', hp', h3, h4⟩ := r.rep p (r'.let_ p hp)
      have := r.uniq p' hp' x hx (by rw [h3, h1])
      subst this
      rwa [leO_anti h4 h2]
  rw [same] at q1'
  clear same r' GG'
  generalize q.map (·.2) = W at r q1 q1'
  refine ⟨W, r, q1, fun k => ?_⟩
  have few := r.few
  have p1 : (sSet 5 (sCall (callF fns 59) 6 [] (sCons (fz (sVar 3)) (sCons (fz (sVar 4)) (sNil))))) (GE s nums a c2 (.fr (.str L)) (.fr (.int (m : Int))) c5 c6 c7 c8 c9 c10 c11 c12 c13 c14) = .ok .next (GE s nums a c2 (.fr (.str L)) (.fr (.int (m : Int))) (.ow (toD W)) c6 c7 c8 c9 c10 c11 c12 c13 c14) :=
    set_ok (call2v_ok (sVar_fr (i := 3) (d := .str L) rfl) (sVar_fr (i := 4) (d := .int m) rfl) q1') (put_any (i := 5) rfl h5 rfl)
  obtain ⟨tl, htl⟩ := r.head
  have x0 : ov (sIdx (oVar 5) (ov (sK (.int 0)))) (GE s nums a c2 (.fr (.str L)) (.fr (.int (m : Int))) (.ow (toD W)) c6 c7 c8 c9 c10 c11 c12 c13 c14) = .ok (.val (.str [])) (GE s nums a c2 (.fr (.str L)) (.fr (.int (m : Int))) (.ow (toD W)) c6 c7 c8 c9 c10 c11 c12 c13 c14) :=
    ov_ok (c := .fr (.str [])) (s2_ok (f := fun d e => (index d e).map Cell.fr) (oVar_ok (i := 5) (d := toD W) rfl) (ov_ok (m := sK (.int 0)) rfl rfl) rfl rfl (by rw [htl, head_ix]; rfl)) rfl
  have n1 := s2_ok (f := cmpop .ne) (r := false) x0 (ov_ok (m := sK (.str [])) rfl rfl) rfl rfl rfl
  have sW := small_let g r.let_
  have bs1 : bSorted [toD W] = some (.ow (toD (srt leS W))) := by
    show (match dints (W.map D.str) with | some ns => some (Cell.ow (.lst ((srt leI ns).map D.int))) | none => (dstrs (W.map D.str)).map fun ss => Cell.ow (.lst ((srt leS ss).map D.str))) = _
    rw [dints_str _ (by rw [htl]; simp), dstrs_map]
    rfl
  have ndS : (srt leS W).Nodup := (srt_perm leS W).nodup_iff.mpr (so_nd r.so)
  have lenEq : (srt leS W).mergeSort leL = W := by
    have h1 := by_len (srt_sorted leS_tot leS_tr W) ndS
    exact List.Perm.eq_of_pairwise (fun a b _ _ z1 z2 => leO_anti z1 z2) h1 (le_of_lt r.so) ((List.mergeSort_perm _ leL).trans (srt_perm leS W))
  have bs2 : bSortLen [toD (srt leS W)] = some (.ow (toD W)) := by
    have sh : short (srt leS W) = true := by
      unfold short
      rw [List.all_eq_true]
      intro x hx
      have := r.len x ((srt_perm leS W).mem_iff.mp hx)
      rw [decide_eq_true_eq]
      omega
    show (dstrs ((srt leS W).map D.str)).bind _ = _
    rw [dstrs_map]
    show (if short (srt leS W) = true then _ else none) = _
    rw [if_pos sh, lenEq]
    rfl
  have so2 := ov_ok (sB1_ok (f := bSortLen) (sB1_var (f := bSorted) (i := 5) (ρ := GE s nums a c2 (.fr (.str L)) (.fr (.int (m : Int))) (.ow (toD W)) c6 c7 c8 c9 c10 c11 c12 c13 c14) (d := toD W) rfl bs1) rfl bs2) rfl
  have n2 := s2_ok (f := cmpop .ne) (oVar_ok (i := 5) (d := toD W) rfl) so2 rfl rfl (ne_toD sW sW)
  rw [decide_eq_true rfl] at n2
  have p2 : (sIf (sOr (sCmp .ne (ov (sIdx (oVar 5) (ov (sK (.int 0))))) (ov (sK (.str [])))) (sCmp .ne (oVar 5) (ov (sB bSortLen (oCons (ov (sB bSorted (oCons (oVar 5) (oNil)))) (oNil)))))) (sRet (sK (.bl false))) (skip)) (GE s nums a c2 (.fr (.str L)) (.fr (.int (m : Int))) (.ow (toD W)) c6 c7 c8 c9 c10 c11 c12 c13 c14) = .ok .next (GE s nums a c2 (.fr (.str L)) (.fr (.int (m : Int))) (.ow (toD W)) c6 c7 c8 c9 c10 c11 c12 c13 c14) := (if_false' (or_f n1 n2)).trans rfl
  have m1 := comp_map (i := 7) (it := iSeq (fz (sVar 5))) (elt := fb14_0 (callF fns 59)) (g := fun d => match d with | .str p => .tup [tupS (kl m p), .str p] | d => d) (ρ := GE s nums a c2 (.fr (.str L)) (.fr (.int (m : Int))) (.ow (toD W)) c6 c7 c8 c9 c10 c11 c12 c13 c14) (ρ1 := GE s nums a c2 (.fr (.str L)) (.fr (.int (m : Int))) (.fr (toD W)) c6 c7 c8 c9 c10 c11 c12 c13 c14) (ds := W.map D.str) (c := c7)
    (iSeq_ok (sVar_ow (i := 5) (d := toD W) rfl) rfl) rfl h7 (by rw [List.length_map]; omega)
    (fun d hd => by
      obtain ⟨p, hp, rfl⟩ := List.mem_map.mp hd
      have q2 := c_kind 57 p (by have := r.len p hp; omega) m
      simp only [show 57 + 2 = 59 from rfl] at q2
      exact fz_ok (tup_ok (cons_ok (fz_ok (call2v_ok (Γ := callF fns 59) (ρ := (GE s nums a c2 (.fr (.str L)) (.fr (.int (m : Int))) (.fr (toD W)) c6 c7 c8 c9 c10 c11 c12 c13 c14).set 7 (.fr (.str p))) (sVar_fr (i := 7) (d := .str p) rfl) (sVar_fr (i := 4) (d := .int m) rfl) q2) rfl) (cons_ok (sVar_fr (i := 7) (d := .str p) rfl) (b := sNil) (xs := []) rfl)) (by simp [LIM])) rfl)
  have em : (W.map D.str).map (fun d => match d with | .str p => D.tup [tupS (kl m p), .str p] | d => d) = W.map fun p => D.tup [tupS (kl m p), .str p] := by
    rw [List.map_map]
    rfl
  rw [em] at m1
  have bd : bDictP [.lst (W.map fun p => D.tup [tupS (kl m p), .str p])] = some (.ow (mkD m W)) := by
    have hk : ((mkP m W).all fun p => keyT p.1) = true := by
      unfold mkP
      rw [List.all_map, List.all_eq_true]
      exact fun e _ => keyT_S _
    show (pairsD (W.map fun p => D.tup [tupS (kl m p), .str p])).bind _ = _
    rw [pairs_mk]
    show (if ((mkP m W).all fun p => keyT p.1) = true ∨ ((mkP m W).all fun p => key1 p.1) = true then some (Cell.ow (.dic ((mkP m W).foldl (fun acc p => dput acc p.1 p.2) []))) else none) = _
    rw [if_pos (.inl hk), fold_put _ [] (by simpa using mk_nd g r)]
    rfl
  have p3 : (sSet 6 (sB bDictP (oCons (ov (sComp [7] (.name 7) (iSeq (fz (sVar 5))) (sYes) (fb14_0 (callF fns 59)))) (oNil)))) (GE s nums a c2 (.fr (.str L)) (.fr (.int (m : Int))) (.ow (toD W)) c6 c7 c8 c9 c10 c11 c12 c13 c14) = .ok .next (GE s nums a c2 (.fr (.str L)) (.fr (.int (m : Int))) (.fr (toD W)) (.ow (mkD m W)) c7 c8 c9 c10 c11 c12 c13 c14) :=
    set_ok (sB1_ok (f := bDictP) m1 rfl bd) (put_any (i := 6) rfl h6 rfl)
  have l6 := ov_ok (sB1_var (f := bLen) (i := 6) (ρ := GE s nums a c2 (.fr (.str L)) (.fr (.int (m : Int))) (.fr (toD W)) (.ow (mkD m W)) c7 c8 c9 c10 c11 c12 c13 c14) (d := mkD m W) (r := .fr (.int W.length)) rfl (by
    show some (Cell.fr (.int ((mkP m W).length : Nat))) = _
    unfold mkP
    rw [List.length_map])) rfl
  have l5 := ov_ok (sB1_var (f := bLen) (i := 5) (ρ := GE s nums a c2 (.fr (.str L)) (.fr (.int (m : Int))) (.fr (toD W)) (.ow (mkD m W)) c7 c8 c9 c10 c11 c12 c13 c14) (d := toD W) (r := .fr (.int W.length)) rfl (by
    show some (Cell.fr (.int ((W.map D.str).length : Nat))) = _
    rw [List.length_map])) rfl
  have n4 := s2_ok (f := cmpop .ne) (r := false) l6 l5 rfl rfl (by
    have e : (((W.length : Nat) : Int) == ((W.length : Nat) : Int)) = true := beq_self_eq_true _
    show some (!(((W.length : Nat) : Int) == ((W.length : Nat) : Int))) = _
    rw [e]; rfl)
  have p4 : (sIf (sCmp .ne (ov (sB bLen (oCons (oVar 6) (oNil)))) (ov (sB bLen (oCons (oVar 5) (oNil))))) (sRet (sK (.bl false))) (skip)) (GE s nums a c2 (.fr (.str L)) (.fr (.int (m : Int))) (.fr (toD W)) (.ow (mkD m W)) c7 c8 c9 c10 c11 c12 c13 c14) = .ok .next (GE s nums a c2 (.fr (.str L)) (.fr (.int (m : Int))) (.fr (toD W)) (.ow (mkD m W)) c7 c8 c9 c10 c11 c12 c13 c14) := (if_false' n4).trans rfl
  have p5 : (sSet 8 (sDict0)) (GE s nums a c2 (.fr (.str L)) (.fr (.int (m : Int))) (.fr (toD W)) (.ow (mkD m W)) c7 c8 c9 c10 c11 c12 c13 c14) = .ok .next (GE s nums a c2 (.fr (.str L)) (.fr (.int (m : Int))) (.fr (toD W)) (.ow (mkD m W)) c7 (.ow (.dic [])) c9 c10 c11 c12 c13 c14) :=
    set_ok (m := sDict0) rfl (put_any (i := 8) rfl h8 rfl)
  exact seq_to p1 (seq_to p2 (seq_to p3 (seq_to p4 (seq_to p5 rfl))))
/-! ### the words in order -/
theorem Rs.min {L : Wd} {m : Nat} {W : List Wd} (r : Rs L m W) {y : Wd} (hy : ∀ x ∈ y, x ∈ L) : ∃ p ∈ W, kp L m p = kp L m y ∧ leO p y = true ∧ (y ∈ W → p = y) := by
  obtain ⟨p, hp, h1, h2⟩ := r.rep y hy
  exact ⟨p, hp, h1, h2, fun h => r.uniq p hp y h h1⟩
theorem wo_one (s : D) (nums : List Int) (a : Int) (c2 c10 c11 c12 c13 c14 : Cell) {L : Wd} {m : Nat} (g : Wp L m) {W : List Wd} (r : Rs L m W) (N : Nat) (hN : N ≤ 5) {W1 W2 : List Wd} {y : Wd} (hw : Ws L N = W1 ++ y :: W2) (few : (Ws L N).length ≤ 2000) (c9 : Cell) (h9 : NoD c9) :
    ∃ d9, NoD d9 ∧ fb14_1 (callF fns 59) (GE s nums a c2 (.fr (.str L)) (.fr (.int (m : Int))) (.fr (toD W)) (.ow (mkD m W)) (.fr (.str y)) (.ow (mkD m (W1.filter fun p => decide (p ∈ W)))) c9 c10 c11 c12 c13 c14) = .ok .next (GE s nums a c2 (.fr (.str L)) (.fr (.int (m : Int))) (.fr (toD W)) (.ow (mkD m W)) (.fr (.str y)) (.ow (mkD m ((W1 ++ [y]).filter fun p => decide (p ∈ W)))) d9 c10 c11 c12 c13 c14) := by
  have hLM : LIM = 16777216 := rfl
  have hin : y ∈ Ws L N := by rw [hw]; simp
  have hym := (Ws_mem L N y).mp hin
  have hso := Ws_so g.so N
  rw [hw] at hso
  obtain ⟨_, s2, s3⟩ := List.pairwise_append.mp hso
  obtain ⟨p, hp, h1, h2, h3⟩ := r.min hym.2
  have h1' : kl m p = kl m y := (kl_kp g (r.let_ p hp) hym.2).mpr h1
  have pin : p ∈ Ws L N := (Ws_mem L N p).mpr ⟨by have := length_le h2; omega, r.let_ p hp⟩
  have hp1 : p = y ∨ p ∈ W1 := by
    rcases leO_or.mp h2 with z | z
    · right
      rw [hw] at pin
      rcases List.mem_append.mp pin with q | q
      · exact q
      · rcases List.mem_cons.mp q with q | q
        · rw [q] at z; exact (ltO_irrefl _ z).elim
        · exact (ltO_irrefl _ (ltO_trans z ((List.pairwise_cons.mp s2).1 p q))).elim
    · exact .inl z
  have yn : y ∉ W1 := fun h => ltO_irrefl _ (s3 y h y List.mem_cons_self)
  have q0 := c_kind 57 y (by omega) m
  simp only [show 57 + 2 = 59 from rfl] at q0
  have p0 : (sSet 9 (sCall (callF fns 59) 13 [] (sCons (fz (sVar 7)) (sCons (fz (sVar 4)) (sNil))))) (GE s nums a c2 (.fr (.str L)) (.fr (.int (m : Int))) (.fr (toD W)) (.ow (mkD m W)) (.fr (.str y)) (.ow (mkD m (W1.filter fun p => decide (p ∈ W)))) c9 c10 c11 c12 c13 c14) = .ok .next (GE s nums a c2 (.fr (.str L)) (.fr (.int (m : Int))) (.fr (toD W)) (.ow (mkD m W)) (.fr (.str y)) (.ow (mkD m (W1.filter fun p => decide (p ∈ W)))) (.fr (tupS (kl m y))) c10 c11 c12 c13 c14) :=
    set_ok (call2v_ok (sVar_fr (i := 7) (d := .str y) rfl) (sVar_fr (i := 4) (d := .int m) rfl) q0) (put_any (i := 9) rfl h9.o2 rfl)
  have uq : ∀ V : List Wd, (∀ x ∈ V, x ∈ W) → ∀ q ∈ V, kl m q = kl m p → q = p := fun V hV q hq h => r.kl_one g (hV q hq) hp h
  have key : (sIf (sCmp .nin (oVar 9) (oVar 8)) (sSetItem 8 (fz (sVar 9)) (fz (sVar 7))) (skip)) (GE s nums a c2 (.fr (.str L)) (.fr (.int (m : Int))) (.fr (toD W)) (.ow (mkD m W)) (.fr (.str y)) (.ow (mkD m (W1.filter fun p => decide (p ∈ W)))) (.fr (tupS (kl m y))) c10 c11 c12 c13 c14) = .ok .next (GE s nums a c2 (.fr (.str L)) (.fr (.int (m : Int))) (.fr (toD W)) (.ow (mkD m W)) (.fr (.str y)) (.ow (mkD m ((W1 ++ [y]).filter fun p => decide (p ∈ W)))) (.fr (tupS (kl m y))) c10 c11 c12 c13 c14) := by
    have an : ((mkP m (W1.filter fun p => decide (p ∈ W))).any fun q => decide (q.1 = tupS (kl m y))) = decide (p ∈ W1) := by
      rw [any_mk, Bool.eq_iff_iff, List.any_eq_true, decide_eq_true_eq]
      constructor
      · rintro ⟨q, hq, hk⟩
        rw [decide_eq_true_eq] at hk
        obtain ⟨hq1, hq2⟩ := List.mem_filter.mp hq
        rw [decide_eq_true_eq] at hq2
        rw [← r.kl_one g hq2 hp (hk.trans h1'.symm)]
        exact hq1
      · exact fun h => ⟨p, List.mem_filter.mpr ⟨h, decide_eq_true hp⟩, decide_eq_true h1'⟩
    have cn : sCmp .nin (oVar 9) (oVar 8) (GE s nums a c2 (.fr (.str L)) (.fr (.int (m : Int))) (.fr (toD W)) (.ow (mkD m W)) (.fr (.str y)) (.ow (mkD m (W1.filter fun p => decide (p ∈ W)))) (.fr (tupS (kl m y))) c10 c11 c12 c13 c14) = .ok (!decide (p ∈ W1)) (GE s nums a c2 (.fr (.str L)) (.fr (.int (m : Int))) (.fr (toD W)) (.ow (mkD m W)) (.fr (.str y)) (.ow (mkD m (W1.filter fun p => decide (p ∈ W)))) (.fr (tupS (kl m y))) c10 c11 c12 c13 c14) :=
      s2_ok (oVar_ok (i := 9) (d := tupS (kl m y)) rfl) (oVar_ok (i := 8) (d := mkD m (W1.filter fun p => decide (p ∈ W))) rfl) rfl rfl (by
        show (if askable (mkP m (W1.filter fun p => decide (p ∈ W))) (tupS (kl m y)) then some (!(dget (mkP m (W1.filter fun p => decide (p ∈ W))) (tupS (kl m y))).isSome) else none) = _
        rw [if_pos (ask_mk _ _ _), find_any, an])
    by_cases hpw : p ∈ W1
    · rw [decide_eq_true hpw] at cn
      have yW : y ∉ W := fun h => yn (by rw [← h3 h]; exact hpw)
      have e : (W1 ++ [y]).filter (fun p => decide (p ∈ W)) = W1.filter fun p => decide (p ∈ W) := by
        rw [List.filter_append]
        simp [yW]
      rw [e]
      exact (if_false' cn).trans rfl
    · rw [decide_eq_false hpw] at cn
      have py : p = y := hp1.resolve_right hpw
      have yW : y ∈ W := by rw [← py]; exact hp
      have e : (W1 ++ [y]).filter (fun p => decide (p ∈ W)) = (W1.filter fun p => decide (p ∈ W)) ++ [y] := by
        rw [List.filter_append]
        simp [yW]
      rw [e]
      refine (if_true' cn).trans ?_
      have lf : (W1.filter fun p => decide (p ∈ W)).length ≤ W1.length := List.length_filter_le _ _
      have lw : W1.length ≤ (Ws L N).length := by rw [hw, List.length_append]; omega
      have si : setItem (tupS (kl m y)) (.str y) (mkD m (W1.filter fun p => decide (p ∈ W))) = some ((), mkD m ((W1.filter fun p => decide (p ∈ W)) ++ [y])) := by
        show (if askable (mkP m (W1.filter fun p => decide (p ∈ W))) (tupS (kl m y)) && decide ((mkP m (W1.filter fun p => decide (p ∈ W))).length < LIM) then some ((), D.dic (dput (mkP m (W1.filter fun p => decide (p ∈ W))) (tupS (kl m y)) (.str y))) else none) = _
        rw [ask_mk, decide_eq_true (by unfold mkP; rw [List.length_map]; omega)]
        unfold dput
        rw [an, decide_eq_false hpw]
        unfold mkD mkP
        rw [List.map_append]
        rfl
      exact setItem_ok (i := 8) (d0 := mkD m (W1.filter fun p => decide (p ∈ W))) (d := mkD m (W1.filter fun p => decide (p ∈ W))) (sVar_fr (i := 7) rfl) rfl (sVar_fr (i := 9) rfl) rfl si
  have pf : p ∈ (W1 ++ [y]).filter fun p => decide (p ∈ W) := List.mem_filter.mpr ⟨by rcases hp1 with h | h; rw [h]; simp; exact List.mem_append_left _ h, decide_eq_true hp⟩
  have g8 := get_mk m (uq _ fun x hx => by simpa using (List.mem_filter.mp hx).2) pf
  have g6 := get_mk m (uq W fun x hx => hx) hp
  rw [h1'] at g8 g6
  generalize (W1 ++ [y]).filter (fun p => decide (p ∈ W)) = V at g8 key pf
  have v6 : sGet 6 (fz (sVar 9)) (GE s nums a c2 (.fr (.str L)) (.fr (.int (m : Int))) (.fr (toD W)) (.ow (mkD m W)) (.fr (.str y)) (.ow (mkD m V)) (.fr (tupS (kl m y))) c10 c11 c12 c13 c14) = .ok (.fr (.str p)) (GE s nums a c2 (.fr (.str L)) (.fr (.int (m : Int))) (.fr (toD W)) (.ow (mkD m W)) (.fr (.str y)) (.ow (mkD m V)) (.fr (tupS (kl m y))) c10 c11 c12 c13 c14) := by
    have a1 : s1 (oVar 6) isDic (GE s nums a c2 (.fr (.str L)) (.fr (.int (m : Int))) (.fr (toD W)) (.ow (mkD m W)) (.fr (.str y)) (.ow (mkD m V)) (.fr (tupS (kl m y))) c10 c11 c12 c13 c14) = .ok () (GE s nums a c2 (.fr (.str L)) (.fr (.int (m : Int))) (.fr (toD W)) (.ow (mkD m W)) (.fr (.str y)) (.ow (mkD m V)) (.fr (tupS (kl m y))) c10 c11 c12 c13 c14) := s1_ok (oVar_ok (i := 6) (d := mkD m W) rfl) rfl rfl
    have a2 := sVar_fr (i := 9) (ρ := GE s nums a c2 (.fr (.str L)) (.fr (.int (m : Int))) (.fr (toD W)) (.ow (mkD m W)) (.fr (.str y)) (.ow (mkD m V)) (.fr (tupS (kl m y))) c10 c11 c12 c13 c14) (d := tupS (kl m y)) rfl
    have a3 : getO (GE s nums a c2 (.fr (.str L)) (.fr (.int (m : Int))) (.fr (toD W)) (.ow (mkD m W)) (.fr (.str y)) (.ow (mkD m V)) (.fr (tupS (kl m y))) c10 c11 c12 c13 c14) (.slot 6) = some (mkD m W) := rfl
    have a4 : dGet (tupS (kl m y)) (mkD m W) = some (.fr (.str p)) := by
      obtain ⟨tl, htl⟩ := r.head
      show (if mkP m W ≠ [] ∧ askable (mkP m W) (tupS (kl m y)) = true then some (Cell.fr ((dget (mkP m W) (tupS (kl m y))).getD .non)) else none) = _
      rw [if_pos ⟨by rw [htl]; simp [mkP], ask_mk _ _ _⟩, g6]
      rfl
    unfold sGet
    simp only [bind', a1, a2, rdO, a3, opt, a4]
  have v8 := ov_ok (c := .fr (.str p)) (s2_ok (f := fun d e => (index d e).map Cell.fr) (oVar_ok (i := 8) (ρ := GE s nums a c2 (.fr (.str L)) (.fr (.int (m : Int))) (.fr (toD W)) (.ow (mkD m W)) (.fr (.str y)) (.ow (mkD m V)) (.fr (tupS (kl m y))) c10 c11 c12 c13 c14) (d := mkD m V) rfl) (oVar_ok (i := 9) (d := tupS (kl m y)) rfl) rfl rfl (by
    show (if askable (mkP m V) (tupS (kl m y)) then dget (mkP m V) (tupS (kl m y)) else none).map Cell.fr = _
    rw [if_pos (ask_mk _ _ _), g8]
    rfl)) rfl
  have n2 := s2_ok (f := cmpop .ne) (r := !decide (p = p)) (ov_ok v6 rfl) v8 rfl rfl rfl
  rw [decide_eq_true rfl] at n2
  refine ⟨.fr (tupS (kl m y)), .inr ⟨_, rfl⟩, ?_⟩
  unfold fb14_1
  exact seq_to p0 (seq_to key ((if_false' n2).trans rfl))
theorem wo_all (s : D) (nums : List Int) (a : Int) (c2 c10 c11 c12 c13 c14 : Cell) {L : Wd} {m : Nat} (g : Wp L m) {W : List Wd} (r : Rs L m W) (N : Nat) (hN : N ≤ 5) (few : (Ws L N).length ≤ 2000) : ∀ (W2 W1 : List Wd) (c7 c9 : Cell), NoD c7 → NoD c9 → Ws L N = W1 ++ W2 →
    ∃ d7 d9, NoD d7 ∧ NoD d9 ∧ forL (.name 7) (fb14_1 (callF fns 59)) (W2.map D.str) (GE s nums a c2 (.fr (.str L)) (.fr (.int (m : Int))) (.fr (toD W)) (.ow (mkD m W)) c7 (.ow (mkD m (W1.filter fun p => decide (p ∈ W)))) c9 c10 c11 c12 c13 c14) = .ok .next (GE s nums a c2 (.fr (.str L)) (.fr (.int (m : Int))) (.fr (toD W)) (.ow (mkD m W)) d7 (.ow (mkD m ((Ws L N).filter fun p => decide (p ∈ W)))) d9 c10 c11 c12 c13 c14)
  | [], W1, c7, c9, h7, h9, hw => ⟨c7, c9, h7, h9, by rw [hw, List.append_nil]; rfl⟩
  | y :: W2, W1, c7, c9, h7, h9, hw => by
    have st : storeS (.name 7) (.str y) (GE s nums a c2 (.fr (.str L)) (.fr (.int (m : Int))) (.fr (toD W)) (.ow (mkD m W)) c7 (.ow (mkD m (W1.filter fun p => decide (p ∈ W)))) c9 c10 c11 c12 c13 c14) = .ok .next (GE s nums a c2 (.fr (.str L)) (.fr (.int (m : Int))) (.fr (toD W)) (.ow (mkD m W)) (.fr (.str y)) (.ow (mkD m (W1.filter fun p => decide (p ∈ W)))) c9 c10 c11 c12 c13 c14) := by
      rcases h7 with rfl | ⟨z, rfl⟩ <;> rfl
    obtain ⟨d9, k9, q⟩ := wo_one s nums a c2 c10 c11 c12 c13 c14 g r N hN hw few c9 h9
    obtain ⟨e7, e9, k7, k9', q2⟩ := wo_all s nums a c2 c10 c11 c12 c13 c14 g r N hN few W2 (W1 ++ [y]) (.fr (.str y)) d9 (.inr ⟨_, rfl⟩) k9 (by rw [hw]; simp)
    exact ⟨e7, e9, k7, k9', (forL_next st q).trans q2⟩
theorem cond_len (b : Nat) {ρ : Env} {m : Sem Cell} {w : Wd} (hw : w.length < 1000) (h : m ρ = .ok (.fr (.int w.length)) ρ) : sCmp .le (ov m) (ov (sK (.int b))) ρ = .ok (decide (w.length ≤ b)) ρ := by
  refine s2_ok (ov_ok h rfl) (ov_ok (m := sK (.int b)) rfl rfl) rfl rfl ?_
  show some (decide ((w.length : Int) ≤ (b : Int))) = _
  congr 1
  rw [Bool.eq_iff_iff, decide_eq_true_eq, decide_eq_true_eq]
  omega
/-- all words of some letters -/
theorem g_words (s : D) (nums : List Int) (a : Int) (c2 c7 c9 c10 c11 c12 c13 c14 : Cell) (h7 : NoD c7) (h9 : NoD c9) (h10 : NoD c10) {L : Wd} {m : Nat} (g : Wp L m) {W : List Wd} (r : Rs L m W) :
    ∃ d7 d8 d9 d10, NoD d7 ∧ NoO2 d8 ∧ NoD d9 ∧ NoD d10 ∧ ∀ k : Sem Flow, seq (sFor (.name 7) (iSeq (fz (sCall (callF fns 59) 11 [] (sCons (fz (sVar 3)) (sCons (fz (sIf (sCmp .lt (ov (sB bLen (oCons (oVar 3) (oNil)))) (ov (sK (.int 3)))) (sK (.int 5)) (sK (.int 4)))) (sNil)))))) (fb14_1 (callF fns 59))) (seq (sIf (sCmp .ne (ov (sComp [7] (.name 7) (iSeq (fz (sVar 5))) (fb14_2 (callF fns 59)) (fb14_3 (callF fns 59)))) (ov (sComp [9] (.name 9) (iSeq (fz (sVar 8))) (fb14_4 (callF fns 59)) (fb14_5 (callF fns 59))))) (sRet (sK (.bl false))) (skip)) (seq (sFor (.name 7) (iSeq (fz (sSl (oVar 5) (sPart (ov (sK (.int (-3))))) (sNoPart)))) (fb14_7 (callF fns 59))) k)) (GE s nums a c2 (.fr (.str L)) (.fr (.int (m : Int))) (.fr (toD W)) (.ow (mkD m W)) c7 (.ow (.dic [])) c9 c10 c11 c12 c13 c14) = k (GE s nums a c2 (.fr (.str L)) (.fr (.int (m : Int))) (.fr (toD W)) (.ow (mkD m W)) d7 d8 d9 d10 c11 c12 c13 c14) := by
  have hLM : LIM = 16777216 := rfl
  have l3 := g.l3
  obtain ⟨N, hN⟩ : ∃ N : Nat, N = if L.length < 3 then 5 else 4 := ⟨_, rfl⟩
  have N5 : N ≤ 5 ∧ 4 ≤ N := by rw [hN]; split <;> omega
  have q0 := c_words 58 L g.l3 N (by omega)
  simp only [show 58 + 1 = 59 from rfl] at q0
  have few : (Ws L N).length ≤ 2000 := by
    have h1 := Ws_len L g.l3 N
    have h2 : (N + 1) * 3 ^ N ≤ 6 * 3 ^ 5 := Nat.mul_le_mul (by omega) (pow3 (by omega))
    have h3 : 6 * 3 ^ 5 = 1458 := rfl
    omega
  have a2 : fz (sIf (sCmp .lt (ov (sB bLen (oCons (oVar 3) (oNil)))) (ov (sK (.int 3)))) (sK (.int 5)) (sK (.int 4))) (GE s nums a c2 (.fr (.str L)) (.fr (.int (m : Int))) (.fr (toD W)) (.ow (mkD m W)) c7 (.ow (.dic [])) c9 c10 c11 c12 c13 c14) = .ok (.int N) (GE s nums a c2 (.fr (.str L)) (.fr (.int (m : Int))) (.fr (toD W)) (.ow (mkD m W)) c7 (.ow (.dic [])) c9 c10 c11 c12 c13 c14) := by
    have cn : sCmp .lt (ov (sB bLen (oCons (oVar 3) (oNil)))) (ov (sK (.int 3))) (GE s nums a c2 (.fr (.str L)) (.fr (.int (m : Int))) (.fr (toD W)) (.ow (mkD m W)) c7 (.ow (.dic [])) c9 c10 c11 c12 c13 c14) = .ok (decide (L.length < 3)) (GE s nums a c2 (.fr (.str L)) (.fr (.int (m : Int))) (.fr (toD W)) (.ow (mkD m W)) c7 (.ow (.dic [])) c9 c10 c11 c12 c13 c14) := by
      refine s2_ok (ov_ok (sB1_var (f := bLen) (i := 3) (d := .str L) rfl (str_len (by omega))) rfl) (ov_ok (m := sK (.int 3)) rfl rfl) rfl rfl ?_
      have e : decide ((L.length : Int) < 3) = decide (L.length < 3) := by
        rw [Bool.eq_iff_iff, decide_eq_true_eq, decide_eq_true_eq]
        omega
      exact congrArg some e
    by_cases h : L.length < 3
    · rw [decide_eq_true h] at cn
      have e : N = 5 := by rw [hN, if_pos h]
      rw [e]
      exact fz_ok (c := .fr (.int 5)) ((if_true' cn).trans rfl) rfl
    · rw [decide_eq_false h] at cn
      have e : N = 4 := by rw [hN, if_neg h]
      rw [e]
      exact fz_ok (c := .fr (.int 4)) ((if_false' cn).trans rfl) rfl
  have it : iSeq (fz (sCall (callF fns 59) 11 [] (sCons (fz (sVar 3)) (sCons (fz (sIf (sCmp .lt (ov (sB bLen (oCons (oVar 3) (oNil)))) (ov (sK (.int 3)))) (sK (.int 5)) (sK (.int 4)))) (sNil))))) (GE s nums a c2 (.fr (.str L)) (.fr (.int (m : Int))) (.fr (toD W)) (.ow (mkD m W)) c7 (.ow (.dic [])) c9 c10 c11 c12 c13 c14) = .ok ((Ws L N).map D.str) (GE s nums a c2 (.fr (.str L)) (.fr (.int (m : Int))) (.fr (toD W)) (.ow (mkD m W)) c7 (.ow (.dic [])) c9 c10 c11 c12 c13 c14) :=
    iSeq_ok (d := toD (Ws L N)) (fz_ok (call2v_ok (sVar_fr (i := 3) (d := .str L) rfl) a2 q0) rfl) rfl
  obtain ⟨d7, d9, k7, k9, q6⟩ := wo_all s nums a c2 c10 c11 c12 c13 c14 g r N N5.1 few (Ws L N) [] c7 c9 h7 h9 rfl
  have p6 : (sFor (.name 7) (iSeq (fz (sCall (callF fns 59) 11 [] (sCons (fz (sVar 3)) (sCons (fz (sIf (sCmp .lt (ov (sB bLen (oCons (oVar 3) (oNil)))) (ov (sK (.int 3)))) (sK (.int 5)) (sK (.int 4)))) (sNil)))))) (fb14_1 (callF fns 59))) (GE s nums a c2 (.fr (.str L)) (.fr (.int (m : Int))) (.fr (toD W)) (.ow (mkD m W)) c7 (.ow (.dic [])) c9 c10 c11 c12 c13 c14) = .ok .next (GE s nums a c2 (.fr (.str L)) (.fr (.int (m : Int))) (.fr (toD W)) (.ow (mkD m W)) d7 (.ow (mkD m ((Ws L N).filter fun p => decide (p ∈ W)))) d9 c10 c11 c12 c13 c14) := (for_ok it).trans q6
  -- 7
  have m1 := comp_filter (i := 7) (it := iSeq (fz (sVar 5))) (cond := fb14_2 (callF fns 59)) (elt := fb14_3 (callF fns 59)) (p := fun d => match d with | .str p => decide (p.length ≤ 4) | _ => false) (ρ := GE s nums a c2 (.fr (.str L)) (.fr (.int (m : Int))) (.fr (toD W)) (.ow (mkD m W)) d7 (.ow (mkD m ((Ws L N).filter fun p => decide (p ∈ W)))) d9 c10 c11 c12 c13 c14) (ρ1 := GE s nums a c2 (.fr (.str L)) (.fr (.int (m : Int))) (.fr (toD W)) (.ow (mkD m W)) d7 (.ow (mkD m ((Ws L N).filter fun p => decide (p ∈ W)))) d9 c10 c11 c12 c13 c14) (ds := W.map D.str) (c := d7)
    (iSeq_ok (d := toD W) (sVar_fr (i := 5) rfl) rfl) rfl k7 (by rw [List.length_map]; have := r.few; omega)
    (fun d hd => by
      obtain ⟨p, hp, rfl⟩ := List.mem_map.mp hd
      have hpl := r.len p hp
      exact ⟨cond_len 4 (w := p) (by omega) (sB1_var (f := bLen) (i := 7) (d := .str p) rfl (str_len (by omega))), sVar_fr (i := 7) rfl⟩)
  have e1 : (W.map D.str).filter (fun d => match d with | .str p => decide (p.length ≤ 4) | _ => false) = (W.filter fun p => decide (p.length ≤ 4)).map D.str := by
    rw [List.filter_map]
    rfl
  rw [e1] at m1
  obtain ⟨V, hV⟩ : ∃ V, V = (Ws L N).filter fun p => decide (p ∈ W) := ⟨_, rfl⟩
  have Vw : ∀ x, x ∈ V ↔ x ∈ W ∧ x.length ≤ N := fun x => by
    rw [hV, List.mem_filter, Ws_mem, decide_eq_true_eq]
    exact ⟨fun h => ⟨h.2, h.1.1⟩, fun h => ⟨⟨h.2, r.let_ x h.1⟩, h.1⟩⟩
  have Vso : V.Pairwise fun a b => ltO a b = true := by rw [hV]; exact (Ws_so g.so N).filter _
  have Vlen : V.length ≤ 2000 := by
    have : V.length ≤ (Ws L N).length := by rw [hV]; exact List.length_filter_le _ _
    omega
  have gV : ∀ p ∈ V, dget (mkP m V) (tupS (kl m p)) = some (.str p) := fun p hp => get_mk m (fun q hq h => r.kl_one g ((Vw q).mp hq).1 ((Vw p).mp hp).1 h) hp
  rw [← hV] at p6 m1
  have m2 := comp_fm (i := 9) (it := iSeq (fz (sVar 8))) (cond := fb14_4 (callF fns 59)) (elt := fb14_5 (callF fns 59)) (p := fun d => match (dget (mkP m V) d).getD .non with | .str p => decide (p.length ≤ 4) | _ => false) (g := fun d => (dget (mkP m V) d).getD .non) (ρ := GE s nums a c2 (.fr (.str L)) (.fr (.int (m : Int))) (.fr (toD W)) (.ow (mkD m W)) d7 (.ow (mkD m V)) d9 c10 c11 c12 c13 c14) (ρ1 := GE s nums a c2 (.fr (.str L)) (.fr (.int (m : Int))) (.fr (toD W)) (.ow (mkD m W)) d7 (.fr (mkD m V)) d9 c10 c11 c12 c13 c14) (ds := V.map fun p => tupS (kl m p)) (c := d9)
    (iSeq_ok (sVar_ow (i := 8) (d := mkD m V) rfl) (by
      show some ((mkP m V).map (·.1)) = _
      unfold mkP
      rw [List.map_map]
      rfl)) rfl k9 (by rw [List.length_map]; omega)
    (fun d hd => by
      obtain ⟨p, hp, rfl⟩ := List.mem_map.mp hd
      have hpl := r.len p ((Vw p).mp hp).1
      rw [gV p hp]
      have ix : s2 (oVar 8) (oVar 9) (fun d e => (index d e).map Cell.fr) ((GE s nums a c2 (.fr (.str L)) (.fr (.int (m : Int))) (.fr (toD W)) (.ow (mkD m W)) d7 (.fr (mkD m V)) d9 c10 c11 c12 c13 c14).set 9 (.fr (tupS (kl m p)))) = .ok (.fr (.str p)) ((GE s nums a c2 (.fr (.str L)) (.fr (.int (m : Int))) (.fr (toD W)) (.ow (mkD m W)) d7 (.fr (mkD m V)) d9 c10 c11 c12 c13 c14).set 9 (.fr (tupS (kl m p)))) :=
        s2_ok (oVar_ok (i := 8) (d := mkD m V) rfl) (oVar_ok (i := 9) (d := tupS (kl m p)) rfl) rfl rfl (by
          show (if askable (mkP m V) (tupS (kl m p)) then dget (mkP m V) (tupS (kl m p)) else none).map Cell.fr = _
          rw [if_pos (ask_mk _ _ _), gV p hp]
          rfl)
      exact ⟨cond_len 4 (w := p) (by omega) (sB1_ok (f := bLen) (d := .str p) ix rfl (str_len (by omega))), fun _ => fz_ok (c := .fr (.str p)) ix rfl⟩)
  have e2 : ((V.map fun p => tupS (kl m p)).filter (fun d => match (dget (mkP m V) d).getD .non with | .str p => decide (p.length ≤ 4) | _ => false)).map (fun d => (dget (mkP m V) d).getD .non) = (V.filter fun p => decide (p.length ≤ 4)).map D.str := by
    rw [List.filter_map, List.map_map]
    have h1 : V.filter ((fun d => match (dget (mkP m V) d).getD .non with | .str p => decide (p.length ≤ 4) | _ => false) ∘ fun p => tupS (kl m p)) = V.filter fun p => decide (p.length ≤ 4) := by
      refine List.filter_congr fun p hp => ?_
      show (match (dget (mkP m V) (tupS (kl m p))).getD .non with | .str p => decide (p.length ≤ 4) | _ => false) = _
      rw [gV p hp]
      rfl
    rw [h1]
    refine List.map_congr_left fun p hp => ?_
    show (dget (mkP m V) (tupS (kl m p))).getD .non = _
    rw [gV p (List.mem_filter.mp hp).1]
    rfl
  rw [e2] at m2
  have eV : V.filter (fun p => decide (p.length ≤ 4)) = W.filter fun p => decide (p.length ≤ 4) := by
    refine so_eq (Vso.filter _) (r.so.filter _) fun x => ?_
    rw [List.mem_filter, List.mem_filter, Vw, decide_eq_true_eq]
    exact ⟨fun h => ⟨h.1.1, h.2⟩, fun h => ⟨⟨h.1, by omega⟩, h.2⟩⟩
  rw [eV] at m2
  have sF : smallS (W.filter fun p => decide (p.length ≤ 4)) := small_let g fun p hp => r.let_ p (List.mem_filter.mp hp).1
  have n7 := s2v_ok (f := cmpop .ne) (ov_ok m1 rfl) (ov_ok m2 rfl) (ne_toD sF sF)
  rw [decide_eq_true rfl] at n7
  have p7 : (sIf (sCmp .ne (ov (sComp [7] (.name 7) (iSeq (fz (sVar 5))) (fb14_2 (callF fns 59)) (fb14_3 (callF fns 59)))) (ov (sComp [9] (.name 9) (iSeq (fz (sVar 8))) (fb14_4 (callF fns 59)) (fb14_5 (callF fns 59))))) (sRet (sK (.bl false))) (skip)) (GE s nums a c2 (.fr (.str L)) (.fr (.int (m : Int))) (.fr (toD W)) (.ow (mkD m W)) d7 (.ow (mkD m V)) d9 c10 c11 c12 c13 c14) = .ok .next (GE s nums a c2 (.fr (.str L)) (.fr (.int (m : Int))) (.fr (toD W)) (.ow (mkD m W)) d7 (.fr (mkD m V)) d9 c10 c11 c12 c13 c14) := (if_false' n7).trans rfl
  -- 8
  have letter : ∀ (p : Wd), p ∈ W → ∀ e10, NoD e10 → ∃ d10, NoD d10 ∧ fb14_7 (callF fns 59) (GE s nums a c2 (.fr (.str L)) (.fr (.int (m : Int))) (.fr (toD W)) (.ow (mkD m W)) (.fr (.str p)) (.fr (mkD m V)) d9 e10 c11 c12 c13 c14) = .ok .next (GE s nums a c2 (.fr (.str L)) (.fr (.int (m : Int))) (.fr (toD W)) (.ow (mkD m W)) (.fr (.str p)) (.fr (mkD m V)) d9 d10 c11 c12 c13 c14) := fun p hp e10 h10' => by
    obtain ⟨ρ8, f8, d10, k10, rfl⟩ := forL_inv (t := .name 10) (body := fb14_6 (callF fns 59))
      (fun ds ρ => (∀ d ∈ ds, ∃ c, c ∈ L ∧ d = .str [c]) ∧ ∃ d10, NoD d10 ∧ ρ = GE s nums a c2 (.fr (.str L)) (.fr (.int (m : Int))) (.fr (toD W)) (.ow (mkD m W)) (.fr (.str p)) (.fr (mkD m V)) d9 d10 c11 c12 c13 c14)
      (fun ρ => ∃ d10, NoD d10 ∧ ρ = GE s nums a c2 (.fr (.str L)) (.fr (.int (m : Int))) (.fr (toD W)) (.ow (mkD m W)) (.fr (.str p)) (.fr (mkD m V)) d9 d10 c11 c12 c13 c14)
      (fun d ds ρ hρ => by
        obtain ⟨hd', d10, k10, rfl⟩ := hρ
        obtain ⟨c, hc, rfl⟩ := hd' d List.mem_cons_self
        have hpl := r.len p hp
        have pc : ∀ x ∈ p ++ [c], x ∈ L := mem_snoc (r.let_ p hp) hc
        have q1 := c_kind 57 (p ++ [c]) (by rw [List.length_append]; simp; omega) m
        simp only [show 57 + 2 = 59 from rfl] at q1
        obtain ⟨p', hp', h1, h2⟩ := r.rep (p ++ [c]) pc
        have h1' := (kl_kp g (r.let_ p' hp') pc).mpr h1
        have cn : sCmp .nin (ov (sCall (callF fns 59) 13 [] (sCons (fz (sBin .add (oVar 7) (oVar 10))) (sCons (fz (sVar 4)) (sNil))))) (oVar 6) (GE s nums a c2 (.fr (.str L)) (.fr (.int (m : Int))) (.fr (toD W)) (.ow (mkD m W)) (.fr (.str p)) (.fr (mkD m V)) d9 (.fr (.str [c])) c11 c12 c13 c14) = .ok false (GE s nums a c2 (.fr (.str L)) (.fr (.int (m : Int))) (.fr (toD W)) (.ow (mkD m W)) (.fr (.str p)) (.fr (mkD m V)) d9 (.fr (.str [c])) c11 c12 c13 c14) :=
          s2_ok (f := cmpop .nin) (ov_ok (call2v_ok (fz_ok (s2_ok (f := binop .add) (oVar_ok (i := 7) (d := .str p) rfl) (oVar_ok (i := 10) (d := .str [c]) rfl) rfl rfl (add_str (by simp; omega))) rfl) (sVar_fr (i := 4) (d := .int m) rfl) q1) rfl) (oVar_ok (i := 6) (d := mkD m W) rfl) rfl rfl (by
            show (if askable (mkP m W) (tupS (kl m (p ++ [c]))) then some (!(dget (mkP m W) (tupS (kl m (p ++ [c])))).isSome) else none) = _
            rw [if_pos (ask_mk _ _ _), ← h1', get_mk m (fun q hq h => r.kl_one g hq hp' h) hp']
            rfl)
        exact ⟨GE s nums a c2 (.fr (.str L)) (.fr (.int (m : Int))) (.fr (toD W)) (.ow (mkD m W)) (.fr (.str p)) (.fr (mkD m V)) d9 (.fr (.str [c])) c11 c12 c13 c14, put_any (i := 10) (d := .fr (.str [c])) rfl k10.o2 rfl, _, (if_false' cn).trans rfl, fun d hm => hd' d (List.mem_cons_of_mem _ hm), .fr (.str [c]), .inr ⟨_, rfl⟩, rfl⟩)
      (fun ρ h => h.2) (sing L) (GE s nums a c2 (.fr (.str L)) (.fr (.int (m : Int))) (.fr (toD W)) (.ow (mkD m W)) (.fr (.str p)) (.fr (mkD m V)) d9 e10 c11 c12 c13 c14)
      ⟨fun d hd' => by
        obtain ⟨c, hc, rfl⟩ := List.mem_map.mp hd'
        exact ⟨c, hc, rfl⟩, e10, h10', rfl⟩
    exact ⟨d10, k10, (for_ok (it := iSeq (fz (sVar 3))) rfl).trans f8⟩
  obtain ⟨ρ9, f9, e7, e10, j7, j10, rfl⟩ := forL_inv (t := .name 7) (body := fb14_7 (callF fns 59))
    (fun ds ρ => (∀ d ∈ ds, ∃ p, p ∈ W ∧ d = .str p) ∧ ∃ d7 d10, NoD d7 ∧ NoD d10 ∧ ρ = GE s nums a c2 (.fr (.str L)) (.fr (.int (m : Int))) (.fr (toD W)) (.ow (mkD m W)) d7 (.fr (mkD m V)) d9 d10 c11 c12 c13 c14)
    (fun ρ => ∃ d7 d10, NoD d7 ∧ NoD d10 ∧ ρ = GE s nums a c2 (.fr (.str L)) (.fr (.int (m : Int))) (.fr (toD W)) (.ow (mkD m W)) d7 (.fr (mkD m V)) d9 d10 c11 c12 c13 c14)
    (fun d ds ρ hρ => by
      obtain ⟨hd', d7, d10, k7, k10, rfl⟩ := hρ
      obtain ⟨p, hp, rfl⟩ := hd' d List.mem_cons_self
      obtain ⟨f10, k10', q⟩ := letter p hp d10 k10
      exact ⟨GE s nums a c2 (.fr (.str L)) (.fr (.int (m : Int))) (.fr (toD W)) (.ow (mkD m W)) (.fr (.str p)) (.fr (mkD m V)) d9 d10 c11 c12 c13 c14, put_any (i := 7) (d := .fr (.str p)) rfl k7.o2 rfl, _, q, fun d hm => hd' d (List.mem_cons_of_mem _ hm), .fr (.str p), f10, .inr ⟨_, rfl⟩, k10', rfl⟩)
    (fun ρ h => h.2) (cut (W.map D.str) (some (-3)) none) (GE s nums a c2 (.fr (.str L)) (.fr (.int (m : Int))) (.fr (toD W)) (.ow (mkD m W)) d7 (.fr (mkD m V)) d9 c10 c11 c12 c13 c14)
    ⟨fun d hd' => by
      have hs : (cut (W.map D.str) (some (-3)) none).Sublist (W.map D.str) := (List.take_sublist _ _).trans (List.drop_sublist _ _)
      obtain ⟨p, hp, rfl⟩ := List.mem_map.mp (hs.subset hd')
      exact ⟨p, hp, rfl⟩, d7, c10, k7, h10, rfl⟩
  have it8 : iSeq (fz (sSl (oVar 5) (sPart (ov (sK (.int (-3))))) (sNoPart))) (GE s nums a c2 (.fr (.str L)) (.fr (.int (m : Int))) (.fr (toD W)) (.ow (mkD m W)) d7 (.fr (mkD m V)) d9 c10 c11 c12 c13 c14) = .ok (cut (W.map D.str) (some (-3)) none) (GE s nums a c2 (.fr (.str L)) (.fr (.int (m : Int))) (.fr (toD W)) (.ow (mkD m W)) d7 (.fr (mkD m V)) d9 c10 c11 c12 c13 c14) :=
    iSeq_ok (d := .lst (cut (W.map D.str) (some (-3)) none)) (fz_ok (c := .ow (.lst (cut (W.map D.str) (some (-3)) none))) (sl_ok (h := sNoPart) (lo := some (-3)) (oVar_ok (i := 5) (d := toD W) rfl) (s1_ok (ov_ok (m := sK (.int (-3))) rfl rfl) rfl rfl) rfl rfl rfl) rfl) rfl
  have p8 : (sFor (.name 7) (iSeq (fz (sSl (oVar 5) (sPart (ov (sK (.int (-3))))) (sNoPart)))) (fb14_7 (callF fns 59))) (GE s nums a c2 (.fr (.str L)) (.fr (.int (m : Int))) (.fr (toD W)) (.ow (mkD m W)) d7 (.fr (mkD m V)) d9 c10 c11 c12 c13 c14) = .ok .next (GE s nums a c2 (.fr (.str L)) (.fr (.int (m : Int))) (.fr (toD W)) (.ow (mkD m W)) e7 (.fr (mkD m V)) d9 e10 c11 c12 c13 c14) := (for_ok it8).trans f9
  exact ⟨e7, _, d9, e10, j7, .inr (.inl ⟨_, rfl⟩), k9, j10, fun k => seq_to p6 (seq_to p7 (seq_to p8 rfl))⟩
/-- one word more -/
theorem g_again (s : D) (nums : List Int) (a : Int) (ha : Ok nums a) (c2 c7 c8 c9 c10 c11 c12 c13 c14 : Cell) (h7 : NoO2 c7) (h12 : NoD c12) (h13 : NoO2 c13) (h14 : NoO2 c14) {L : Wd} {m : Nat} (g : Wp L m) {Q : List Wd} (hQ : Rp L m Q) {W : List Wd} (hW : callF fns 58 6 [.fr (.str L), .fr (.int m)] = .ok (.ow (toD W)) []) (r : Rs L m W) :
    ∃ a' d7 d13 d14, Ok nums a' ∧ NoD d7 ∧ NoO2 d13 ∧ NoO2 d14 ∧ fb14_9 (callF fns 59) (GE s nums a c2 (.fr (.str L)) (.fr (.int (m : Int))) (.fr (toD W)) (.ow (mkD m W)) c7 c8 c9 c10 c11 c12 c13 c14) = .ok .next (GE s nums a' c2 (.fr (.str L)) (.fr (.int (m : Int))) (.fr (toD W)) (.ow (mkD m W)) d7 c8 c9 c10 c11 c12 d13 d14) := by
  have hLM : LIM = 16777216 := rfl
  have l3 := g.l3
  have hne := g.ne
  obtain ⟨rr, r0, r1, q0⟩ := c_next 58 nums a 8 ha.ne ha.a0 (by omega) ha.few
  have hit : iRange1 (ov (sCall (callF fns 59) 9 [1] (sCons (fz (sK (.int 8))) (sNil)))) (GE s nums a c2 (.fr (.str L)) (.fr (.int (m : Int))) (.fr (toD W)) (.ow (mkD m W)) c7 c8 c9 c10 c11 c12 c13 c14) = .ok (rng 0 rr.toNat) (GE s nums (a + 1) c2 (.fr (.str L)) (.fr (.int (m : Int))) (.fr (toD W)) (.ow (mkD m W)) c7 c8 c9 c10 c11 c12 c13 c14) := by
    have b : -(2 ^ 62) ≤ rr ∧ rr < 2 ^ 62 := by omega
    exact s1_ok (ov_ok (call1L_ok (ρ := GE s nums a c2 (.fr (.str L)) (.fr (.int (m : Int))) (.fr (toD W)) (.ow (mkD m W)) c7 c8 c9 c10 c11 c12 c13 c14) rfl (fz_ok rfl rfl) rfl q0) rfl) rfl (if_pos b)
  obtain ⟨xs, a', k1, k2, k3, k4⟩ := comp_draw (i := 12) (it := iRange1 (ov (sCall (callF fns 59) 9 [1] (sCons (fz (sK (.int 8))) (sNil))))) (cond := sYes) (elt := fb14_8 (callF fns 59)) (F := fun a c => (GE s nums a c2 (.fr (.str L)) (.fr (.int (m : Int))) (.fr (toD W)) (.ow (mkD m W)) c7 c8 c9 c10 c11 c12 c13 c14).set 12 c) (G := Ok nums) (Px := LetP L) (ρ := GE s nums a c2 (.fr (.str L)) (.fr (.int (m : Int))) (.fr (toD W)) (.ow (mkD m W)) c7 c8 c9 c10 c11 c12 c13 c14) (ds := rng 0 rr.toNat) (a := a + 1) (c := c12)
    (fun _ _ => rfl) (fun _ _ _ => rfl) hit ha.up h12 (by rw [rng_len]; omega)
    (fun d hd b hb => by
      obtain ⟨y, hy, q⟩ := c_pick 57 nums b hb (L.map fun c => D.str [c]) (by simpa using hne)
      obtain ⟨c, hc, rfl⟩ := List.mem_map.mp hy
      refine .inl ⟨b + 1, .str [c], hb.up, ⟨c, rfl, hc⟩, b, rfl, ?_⟩
      have hb1 : bList [.str L] = some (.ow (.lst (L.map fun c => .str [c]))) := by
        show (if L.length ≤ LIM then _ else none) = _
        rw [if_pos (by omega)]
      exact fz_ok (call1L_ok (i := 1) (ρ := (GE s nums b c2 (.fr (.str L)) (.fr (.int (m : Int))) (.fr (toD W)) (.ow (mkD m W)) c7 c8 c9 c10 c11 c12 c13 c14).set 12 (.fr d)) rfl (fz_ok (sB1_var (f := bList) (i := 3) (d := .str L) rfl hb1) rfl) rfl q) rfl)
  obtain ⟨w, rfl, hw⟩ := let_list k3
  have wl : w.length < 8 := by
    have := k2.1
    rw [rng_len, List.length_map] at this
    omega
  have e : D.lst (w.map fun c => D.str [c]) = toD (w.map fun c => [c]) := by
    unfold toD
    rw [List.map_map]
    rfl
  have j1 := join_ok (w.map fun c => [c]) (by rw [flat_len, single_flat]; omega)
  rw [single_flat] at j1
  rw [e] at k4
  have p0 : (sSet 7 (s1 (ov (sComp [12] (.name 12) (iRange1 (ov (sCall (callF fns 59) 9 [1] (sCons (fz (sK (.int 8))) (sNil))))) (sYes) (fb14_8 (callF fns 59)))) (bJoin1 []))) (GE s nums a c2 (.fr (.str L)) (.fr (.int (m : Int))) (.fr (toD W)) (.ow (mkD m W)) c7 c8 c9 c10 c11 c12 c13 c14) = .ok .next (GE s nums a' c2 (.fr (.str L)) (.fr (.int (m : Int))) (.fr (toD W)) (.ow (mkD m W)) (.fr (.str w)) c8 c9 c10 c11 c12 c13 c14) :=
    set_ok (s1_ok (f := bJoin1 []) (ov_ok k4 rfl) rfl j1) (put_any (i := 7) rfl h7 rfl)
  obtain ⟨p, hp, h1, h2⟩ := r.rep w hw
  have hpl := r.len p hp
  have hpi := r.let_ p hp
  have h1' := (kl_kp g hpi hw).mpr h1
  have q1 := c_least 56 g hQ hW r w (by omega) hw hp h1
  simp only [show 56 + 3 = 59 from rfl] at q1
  have p1 : (sSet 13 (sCall (callF fns 59) 7 [] (sCons (fz (sVar 3)) (sCons (fz (sVar 7)) (sCons (fz (sVar 4)) (sNil)))))) (GE s nums a' c2 (.fr (.str L)) (.fr (.int (m : Int))) (.fr (toD W)) (.ow (mkD m W)) (.fr (.str w)) c8 c9 c10 c11 c12 c13 c14) = .ok .next (GE s nums a' c2 (.fr (.str L)) (.fr (.int (m : Int))) (.fr (toD W)) (.ow (mkD m W)) (.fr (.str w)) c8 c9 c10 c11 c12 (.fr (.str p)) c14) :=
    set_ok (call3v_ok (sVar_fr (i := 3) (d := .str L) rfl) (sVar_fr (i := 7) (d := .str w) rfl) (sVar_fr (i := 4) (d := .int m) rfl) q1) (put_any (i := 13) rfl h13 rfl)
  have q2 := c_kind 57 w (by omega) m
  simp only [show 57 + 2 = 59 from rfl] at q2
  have g6 := get_mk m (fun q hq h => r.kl_one g hq hp h) hp
  rw [h1'] at g6
  have ix := ov_ok (c := .fr (.str p)) (s2_ok (f := fun d e => (index d e).map Cell.fr) (oVar_ok (i := 6) (ρ := GE s nums a' c2 (.fr (.str L)) (.fr (.int (m : Int))) (.fr (toD W)) (.ow (mkD m W)) (.fr (.str w)) c8 c9 c10 c11 c12 (.fr (.str p)) c14) (d := mkD m W) rfl) (ov_ok (call2v_ok (Γ := callF fns 59) (sVar_fr (i := 7) (d := .str w) rfl) (sVar_fr (i := 4) (d := .int m) rfl) q2) rfl) rfl rfl (by
    show (if askable (mkP m W) (tupS (kl m w)) then dget (mkP m W) (tupS (kl m w)) else none).map Cell.fr = _
    rw [if_pos (ask_mk _ _ _), g6]
    rfl)) rfl
  have n1 := s2_ok (f := cmpop .ne) (r := !decide (p = p)) (oVar_ok (i := 13) (d := .str p) rfl) ix rfl rfl rfl
  rw [decide_eq_true rfl] at n1
  obtain ⟨rs, hrs, _⟩ := c_apart 57 L w p (by omega) (by omega) g.so
  have hno : upto m rs = none := by
    cases rs with
    | none => rfl
    | some x =>
      by_cases hx : x.length ≤ m
      · exact (hrs.1 ((kp_eq g.so hw hpi).mp h1.symm x hx)).elim
      · exact if_neg hx
  have q3 := c_upto 56 L w p (by omega) (by omega) g.so hrs (fun x hx => by
    subst hx
    have hpt := hrs.1
    by_cases z1 : x.Sublist w
    · have := z1.length_le; omega
    · by_cases z2 : x.Sublist p
      · have := z2.length_le; omega
      · exact (hpt (by simp [z1, z2])).elim) m
  simp only [show 56 + 3 = 59 from rfl] at q3
  rw [hno] at q3
  have n2 : sNotN (ov (sCall (callF fns 59) 3 [] (sCons (fz (sVar 3)) (sCons (fz (sVar 7)) (sCons (fz (sVar 13)) (sCons (fz (sVar 4)) (sNil))))))) (GE s nums a' c2 (.fr (.str L)) (.fr (.int (m : Int))) (.fr (toD W)) (.ow (mkD m W)) (.fr (.str w)) c8 c9 c10 c11 c12 (.fr (.str p)) c14) = .ok false (GE s nums a' c2 (.fr (.str L)) (.fr (.int (m : Int))) (.fr (toD W)) (.ow (mkD m W)) (.fr (.str w)) c8 c9 c10 c11 c12 (.fr (.str p)) c14) :=
    s1_ok (ov_ok (call4v_ok (sVar_fr (i := 3) (d := .str L) rfl) (sVar_fr (i := 7) (d := .str w) rfl) (sVar_fr (i := 13) (d := .str p) rfl) (sVar_fr (i := 4) (d := .int m) rfl) q3) rfl) rfl rfl
  have p2 : (sIf (sOr (sCmp .ne (oVar 13) (ov (sIdx (oVar 6) (ov (sCall (callF fns 59) 13 [] (sCons (fz (sVar 7)) (sCons (fz (sVar 4)) (sNil)))))))) (sNotN (ov (sCall (callF fns 59) 3 [] (sCons (fz (sVar 3)) (sCons (fz (sVar 7)) (sCons (fz (sVar 13)) (sCons (fz (sVar 4)) (sNil))))))))) (sRet (sK (.bl false))) (skip)) (GE s nums a' c2 (.fr (.str L)) (.fr (.int (m : Int))) (.fr (toD W)) (.ow (mkD m W)) (.fr (.str w)) c8 c9 c10 c11 c12 (.fr (.str p)) c14) = .ok .next (GE s nums a' c2 (.fr (.str L)) (.fr (.int (m : Int))) (.fr (toD W)) (.ow (mkD m W)) (.fr (.str w)) c8 c9 c10 c11 c12 (.fr (.str p)) c14) := (if_false' (or_f n1 n2)).trans rfl
  obtain ⟨y, hy, q4⟩ := c_pick 57 nums a' k1 (L.map fun c => D.str [c]) (by simpa using hne)
  obtain ⟨c, hc, rfl⟩ := List.mem_map.mp hy
  simp only [show 57 + 2 = 59 from rfl] at q4
  have hb1 : bList [.str L] = some (.ow (.lst (L.map fun c => .str [c]))) := by
    show (if L.length ≤ LIM then _ else none) = _
    rw [if_pos (by omega)]
  have p3 : (sSet 14 (sCall (callF fns 59) 10 [1] (sCons (fz (sB bList (oCons (oVar 3) (oNil)))) (sNil)))) (GE s nums a' c2 (.fr (.str L)) (.fr (.int (m : Int))) (.fr (toD W)) (.ow (mkD m W)) (.fr (.str w)) c8 c9 c10 c11 c12 (.fr (.str p)) c14) = .ok .next (GE s nums (a' + 1) c2 (.fr (.str L)) (.fr (.int (m : Int))) (.fr (toD W)) (.ow (mkD m W)) (.fr (.str w)) c8 c9 c10 c11 c12 (.fr (.str p)) (.fr (.str [c]))) :=
    set_ok (call1L_ok (i := 1) (ρ := GE s nums a' c2 (.fr (.str L)) (.fr (.int (m : Int))) (.fr (toD W)) (.ow (mkD m W)) (.fr (.str w)) c8 c9 c10 c11 c12 (.fr (.str p)) c14) rfl (fz_ok (sB1_var (f := bList) (i := 3) (d := .str L) rfl hb1) rfl) rfl q4) (put_any (i := 14) rfl h14 rfl)
  have mc : ∀ {x : Wd}, (∀ y ∈ x, y ∈ L) → ∀ y ∈ [c] ++ x, y ∈ L := fun {x} hx y hy => by
    rcases List.mem_append.mp hy with h | h
    · simp at h; subst h; exact hc
    · exact hx y h
  have w1 := c_pieces 58 g (w ++ [c]) (by simp; omega) (mem_snoc hw hc)
  have w2 := c_pieces 58 g (p ++ [c]) (by simp; omega) (mem_snoc hpi hc)
  have w3 := c_pieces 58 g ([c] ++ w) (by simp; omega) (mc hw)
  have w4 := c_pieces 58 g ([c] ++ p) (by simp; omega) (mc hpi)
  rw [← kp_right g.so hpi hw hc h1] at w1
  have kl' : kp L m ([c] ++ w) = kp L m ([c] ++ p) := (kp_left g.so hpi hw hc h1).symm
  rw [kl'] at w3
  simp only [show 58 + 1 = 59 from rfl] at w1 w2 w3 w4
  have pc : ∀ (i j : Nat) (x y : Wd), ((GE s nums (a' + 1) c2 (.fr (.str L)) (.fr (.int (m : Int))) (.fr (toD W)) (.ow (mkD m W)) (.fr (.str w)) c8 c9 c10 c11 c12 (.fr (.str p)) (.fr (.str [c])))[i]?).bind Cell.dat = some (.str x) → ((GE s nums (a' + 1) c2 (.fr (.str L)) (.fr (.int (m : Int))) (.fr (toD W)) (.ow (mkD m W)) (.fr (.str w)) c8 c9 c10 c11 c12 (.fr (.str p)) (.fr (.str [c])))[j]?).bind Cell.dat = some (.str y) → x.length < 50 → y.length < 50 →
      fz (sBin .add (oVar i) (oVar j)) (GE s nums (a' + 1) c2 (.fr (.str L)) (.fr (.int (m : Int))) (.fr (toD W)) (.ow (mkD m W)) (.fr (.str w)) c8 c9 c10 c11 c12 (.fr (.str p)) (.fr (.str [c]))) = .ok (.str (x ++ y)) (GE s nums (a' + 1) c2 (.fr (.str L)) (.fr (.int (m : Int))) (.fr (toD W)) (.ow (mkD m W)) (.fr (.str w)) c8 c9 c10 c11 c12 (.fr (.str p)) (.fr (.str [c]))) := fun i j x y hi hj hx hy =>
    fz_ok (s2_ok (f := binop .add) (oVar_ok (i := i) (d := .str x) hi) (oVar_ok (i := j) (d := .str y) hj) hi hj (add_str (by omega))) rfl
  have f1 := ov_ok (call2v_ok (Γ := callF fns 59) (pc 7 14 w [c] rfl rfl (by omega) (by simp)) (sVar_fr (i := 4) (d := .int m) rfl) w1) rfl
  have f2 := ov_ok (call2v_ok (Γ := callF fns 59) (pc 13 14 p [c] rfl rfl (by omega) (by simp)) (sVar_fr (i := 4) (d := .int m) rfl) w2) rfl
  have f3 := ov_ok (call2v_ok (Γ := callF fns 59) (pc 14 7 [c] w rfl rfl (by simp) (by omega)) (sVar_fr (i := 4) (d := .int m) rfl) w3) rfl
  have f4 := ov_ok (call2v_ok (Γ := callF fns 59) (pc 14 13 [c] p rfl rfl (by simp) (by omega)) (sVar_fr (i := 4) (d := .int m) rfl) w4) rfl
  have m1 := s2_ok f1 f2 rfl rfl (ne_toD (small_kp g _) (small_kp g _))
  have m2 := s2_ok f3 f4 rfl rfl (ne_toD (small_kp g _) (small_kp g _))
  rw [decide_eq_true rfl] at m1 m2
  refine ⟨a' + 1, .fr (.str w), .fr (.str p), .fr (.str [c]), k1.up, .inr ⟨_, rfl⟩, .inr (.inl ⟨_, rfl⟩), .inr (.inl ⟨_, rfl⟩), ?_⟩
  unfold fb14_9
  exact seq_to p0 (seq_to p1 (seq_to p2 (seq_to p3 ((if_false' (or_f m1 m2)).trans rfl))))
theorem rp_of {L : Wd} {m : Nat} {T : List (Wd × List Wd)} (so : L.Pairwise (· < ·)) (h : closedB L m T = true) (f : T.length ≤ 68 ∧ (T.all fun e => decide (e.1.length ≤ 9)) = true) : Rp L m (T.map (·.1)) := by
  refine ⟨by rw [List.length_map]; exact f.1, fun y hy => ?_⟩
  obtain ⟨q, hq, h1, h2, h3⟩ := closed_rep so h _ y rfl hy
  refine ⟨q, hq, h1, h2, ?_, h3⟩
  obtain ⟨e, he, rfl⟩ := List.mem_map.mp hq
  have := List.all_eq_true.mp f.2 e he
  rwa [decide_eq_true_eq] at this
theorem wp_of {L : Wd} {m : Nat} (ne : L ≠ []) (l3 : L.length ≤ 3) (so : L.Pairwise (· < ·)) (sm : ∀ x ∈ L, x < 1000) (hm : m ≤ 3) : Wp L m := ⟨ne, l3, so, sm, hm, by
  have h1 := Ws_len L l3 m
  have h2 : (m + 1) * 3 ^ m ≤ 4 * 3 ^ 3 := Nat.mul_le_mul (by omega) (pow3 hm)
  have h3 : 4 * 3 ^ 3 = 108 := rfl
  omega⟩
/-- a turn -/
theorem g_turn (s : D) (nums : List Int) (a : Int) (ha : Ok nums a) (c2 c3 c4 c5 c6 c7 c8 c9 c10 c11 c12 c13 c14 : Cell) (h3 : NoO2 c3) (h4 : NoO2 c4) (h5 : NoO2 c5) (h6 : NoO2 c6) (h7 : NoD c7) (h8 : NoO2 c8) (h9 : NoD c9) (h10 : NoD c10) (h11 : NoO2 c11) (h12 : NoD c12) (h13 : NoO2 c13) (h14 : NoO2 c14) :
    ∃ a' d3 d4 d5 d6 d7 d8 d9 d10 d11 d12 d13 d14, Ok nums a' ∧ NoO2 d3 ∧ NoO2 d4 ∧ NoO2 d5 ∧ NoO2 d6 ∧ NoD d7 ∧ NoO2 d8 ∧ NoD d9 ∧ NoD d10 ∧ NoO2 d11 ∧ NoD d12 ∧ NoO2 d13 ∧ NoO2 d14 ∧
      fb14_10 (callF fns 59) (GE s nums a c2 c3 c4 c5 c6 c7 c8 c9 c10 c11 c12 c13 c14) = .ok .next (GE s nums a' c2 d3 d4 d5 d6 d7 d8 d9 d10 d11 d12 d13 d14) := by
  obtain ⟨dl, hdl, q0⟩ := c_pick 57 nums a ha [.tup [.str [97], .int 3], .tup [.str [97, 98], .int 2], .tup [.str [97, 98], .int 2], .tup [.str [97, 98], .int 1], .tup [.str [97, 98, 99], .int 1], .tup [.str [97, 98, 99], .int 0], .tup [.str [97, 98], .int 3]] (by simp)
  obtain ⟨L, m, rfl, g, Q, hQ⟩ : ∃ (L : Wd) (m : Nat), dl = .tup [.str L, .int m] ∧ Wp L m ∧ ∃ Q, Rp L m Q := by
    simp only [List.mem_cons, List.not_mem_nil, or_false] at hdl
    rcases hdl with rfl | rfl | rfl | rfl | rfl | rfl | rfl
    · exact ⟨[97], 3, rfl, wp_of (by simp) (by simp) (by simp) (by simp) (by omega), _, rp_of (by simp) T0_ok T0_few⟩
    · exact ⟨[97, 98], 2, rfl, wp_of (by simp) (by simp) (by simp) (by simp) (by omega), _, rp_of (by simp) T1_ok T1_few⟩
    · exact ⟨[97, 98], 2, rfl, wp_of (by simp) (by simp) (by simp) (by simp) (by omega), _, rp_of (by simp) T1_ok T1_few⟩
    · exact ⟨[97, 98], 1, rfl, wp_of (by simp) (by simp) (by simp) (by simp) (by omega), _, rp_of (by simp) T2_ok T2_few⟩
    · exact ⟨[97, 98, 99], 1, rfl, wp_of (by simp) (by simp) (by simp) (by simp) (by omega), _, rp_of (by simp) T3_ok T3_few⟩
    · exact ⟨[97, 98, 99], 0, rfl, wp_of (by simp) (by simp) (by simp) (by simp) (by omega), _, rp_of (by simp) T4_ok T4_few⟩
    · exact ⟨[97, 98], 3, rfl, wp_of (by simp) (by simp) (by simp) (by simp) (by omega), _, rp_of (by simp) T5_ok T5_few⟩
  simp only [show 57 + 2 = 59 from rfl] at q0
  have p0 : (sAsg (.tup [.name 3, .name 4]) (fz (sCall (callF fns 59) 10 [1] (sCons (fz (sLst (sCons (fz (sTup (sCons (fz (sK (.str [97]))) (sCons (fz (sK (.int 3))) (sNil))))) (sCons (fz (sTup (sCons (fz (sK (.str [97, 98]))) (sCons (fz (sK (.int 2))) (sNil))))) (sCons (fz (sTup (sCons (fz (sK (.str [97, 98]))) (sCons (fz (sK (.int 2))) (sNil))))) (sCons (fz (sTup (sCons (fz (sK (.str [97, 98]))) (sCons (fz (sK (.int 1))) (sNil))))) (sCons (fz (sTup (sCons (fz (sK (.str [97, 98, 99]))) (sCons (fz (sK (.int 1))) (sNil))))) (sCons (fz (sTup (sCons (fz (sK (.str [97, 98, 99]))) (sCons (fz (sK (.int 0))) (sNil))))) (sCons (fz (sTup (sCons (fz (sK (.str [97, 98]))) (sCons (fz (sK (.int 3))) (sNil))))) (sNil)))))))))) (sNil))))) (GE s nums a c2 c3 c4 c5 c6 c7 c8 c9 c10 c11 c12 c13 c14) = .ok .next (GE s nums (a + 1) c2 (.fr (.str L)) (.fr (.int (m : Int))) c5 c6 c7 c8 c9 c10 c11 c12 c13 c14) := by
    refine asg_ok (fz_ok (call1L_ok (i := 1) (ρ := GE s nums a c2 c3 c4 c5 c6 c7 c8 c9 c10 c11 c12 c13 c14) (d := .lst [.tup [.str [97], .int 3], .tup [.str [97, 98], .int 2], .tup [.str [97, 98], .int 2], .tup [.str [97, 98], .int 1], .tup [.str [97, 98, 99], .int 1], .tup [.str [97, 98, 99], .int 0], .tup [.str [97, 98], .int 3]]) rfl rfl rfl q0) rfl) ?_
    rcases h3 with rfl | ⟨y, rfl⟩ | ⟨y, rfl⟩ <;> rcases h4 with rfl | ⟨z, rfl⟩ | ⟨z, rfl⟩ <;> rfl
  obtain ⟨W, r, hW, w1⟩ := g_kinds s nums (a + 1) c2 c5 c6 c7 c8 c9 c10 c11 c12 c13 c14 h5 h6 h7 h8 g hQ
  obtain ⟨d7, d8, d9, d10, k7, k8, k9, k10, w2⟩ := g_words s nums (a + 1) c2 c7 c9 c10 c11 c12 c13 c14 h7 h9 h10 g r
  obtain ⟨ρ9, f9, a', e7, e11, e13, e14, o', j7, j11, j13, j14, rfl⟩ := forL_inv (t := .name 11) (body := fb14_9 (callF fns 59))
    (fun ds ρ => ∃ a' d7 d11 d13 d14, Ok nums a' ∧ NoD d7 ∧ NoO2 d11 ∧ NoO2 d13 ∧ NoO2 d14 ∧ ρ = GE s nums a' c2 (.fr (.str L)) (.fr (.int (m : Int))) (.fr (toD W)) (.ow (mkD m W)) d7 d8 d9 d10 d11 c12 d13 d14)
    (fun ρ => ∃ a' d7 d11 d13 d14, Ok nums a' ∧ NoD d7 ∧ NoO2 d11 ∧ NoO2 d13 ∧ NoO2 d14 ∧ ρ = GE s nums a' c2 (.fr (.str L)) (.fr (.int (m : Int))) (.fr (toD W)) (.ow (mkD m W)) d7 d8 d9 d10 d11 c12 d13 d14)
    (fun d ds ρ hρ => by
      obtain ⟨a', d7, d11, d13, d14, o', k7, k11, k13, k14, rfl⟩ := hρ
      obtain ⟨a2, f7, f13, f14, o2, i7, i13, i14, q⟩ := g_again s nums a' o' c2 d7 d8 d9 d10 (.fr d) c12 d13 d14 k7.o2 h12 k13 k14 g hQ hW r
      exact ⟨GE s nums a' c2 (.fr (.str L)) (.fr (.int (m : Int))) (.fr (toD W)) (.ow (mkD m W)) d7 d8 d9 d10 (.fr d) c12 d13 d14, put_any (i := 11) (d := .fr d) rfl k11 rfl, _, q, a2, f7, .fr d, f13, f14, o2, i7, .inr (.inl ⟨_, rfl⟩), i13, i14, rfl⟩)
    (fun ρ h => h) (rng 0 4) (GE s nums (a + 1) c2 (.fr (.str L)) (.fr (.int (m : Int))) (.fr (toD W)) (.ow (mkD m W)) d7 d8 d9 d10 c11 c12 c13 c14)
    ⟨a + 1, d7, c11, c13, c14, ha.up, k7, h11, h13, h14, rfl⟩
  have p9 : (sFor (.name 11) (iRange1 (ov (sK (.int 4)))) (fb14_9 (callF fns 59))) (GE s nums (a + 1) c2 (.fr (.str L)) (.fr (.int (m : Int))) (.fr (toD W)) (.ow (mkD m W)) d7 d8 d9 d10 c11 c12 c13 c14) = .ok .next (GE s nums a' c2 (.fr (.str L)) (.fr (.int (m : Int))) (.fr (toD W)) (.ow (mkD m W)) e7 d8 d9 d10 e11 c12 e13 e14) := (for_ok rfl).trans f9
  refine ⟨a', .fr (.str L), .fr (.int (m : Int)), .fr (toD W), .ow (mkD m W), e7, d8, d9, d10, e11, c12, e13, e14, o', .inr (.inl ⟨_, rfl⟩), .inr (.inl ⟨_, rfl⟩), .inr (.inl ⟨_, rfl⟩), .inr (.inr ⟨_, rfl⟩), j7, k8, k9, k10, j11, h12, j13, j14, ?_⟩
  unfold fb14_10
  refine seq_to p0 ?_
  rw [w1, w2]
  exact p9
/-- the law -/
theorem main' : ∀ ns : List Int, ns.length ≤ 63 → ∃ os, callF fns 60 14 [.fr (.klst (ns.map D.int))] = .ok (.fr (.bl true)) os := by
  intro ns _
  obtain ⟨nums, i1, i2, i3⟩ := c_draws 58 ns
  simp only [show 58 + 1 = 59 from rfl] at i3
  have o0 : Ok nums 0 := ⟨i1, i2, Int.le_refl 0⟩
  generalize hs : D.klst (ns.map D.int) = s at *
  have p0 : (sSet 1 (sCall (callF fns 59) 8 [] (sCons (fz (sVar 0)) (sNil)))) [.fr s, .no, .no, .no, .no, .no, .no, .no, .no, .no, .no, .no, .no, .no, .no] = .ok .next (GE s nums 0 .no .no .no .no .no .no .no .no .no .no .no .no .no) := set_ok (call1v_ok (sVar_fr (d := s) rfl) i3) rfl
  have NO : NoO2 .no := .inl rfl
  obtain ⟨ρ1, f1, a, c2, c3, c4, c5, c6, c7, c8, c9, c10, c11, c12, c13, c14, hρ⟩ := forL_inv (t := .name 2) (body := fb14_10 (callF fns 59))
    (fun _ ρ => ∃ a c2 c3 c4 c5 c6 c7 c8 c9 c10 c11 c12 c13 c14, (Ok nums a ∧ NoO2 c2 ∧ NoO2 c3 ∧ NoO2 c4 ∧ NoO2 c5 ∧ NoO2 c6 ∧ NoD c7 ∧ NoO2 c8 ∧ NoD c9 ∧ NoD c10 ∧ NoO2 c11 ∧ NoD c12 ∧ NoO2 c13 ∧ NoO2 c14) ∧ ρ = GE s nums a c2 c3 c4 c5 c6 c7 c8 c9 c10 c11 c12 c13 c14)
    (fun ρ => ∃ a c2 c3 c4 c5 c6 c7 c8 c9 c10 c11 c12 c13 c14, ρ = GE s nums a c2 c3 c4 c5 c6 c7 c8 c9 c10 c11 c12 c13 c14)
    (fun d ds ρ hρ => by
      obtain ⟨a, c2, c3, c4, c5, c6, c7, c8, c9, c10, c11, c12, c13, c14, ⟨oa, h2, h3, h4, h5, h6, h7, h8, h9, h10, h11, h12, h13, h14⟩, rfl⟩ := hρ
      obtain ⟨a', d3, d4, d5, d6, d7, d8, d9, d10, d11, d12, d13, d14, o', k3, k4, k5, k6, k7, k8, k9, k10, k11, k12, k13, k14, e⟩ := g_turn s nums a oa (.fr d) c3 c4 c5 c6 c7 c8 c9 c10 c11 c12 c13 c14 h3 h4 h5 h6 h7 h8 h9 h10 h11 h12 h13 h14
      exact ⟨GE s nums a (.fr d) c3 c4 c5 c6 c7 c8 c9 c10 c11 c12 c13 c14, put_any (i := 2) (d := .fr d) rfl h2 rfl, _, e, a', .fr d, d3, d4, d5, d6, d7, d8, d9, d10, d11, d12, d13, d14, ⟨o', .inr (.inl ⟨_, rfl⟩), k3, k4, k5, k6, k7, k8, k9, k10, k11, k12, k13, k14⟩, rfl⟩)
    (fun ρ h => by
      obtain ⟨a, c2, c3, c4, c5, c6, c7, c8, c9, c10, c11, c12, c13, c14, _, e⟩ := h
      exact ⟨a, c2, c3, c4, c5, c6, c7, c8, c9, c10, c11, c12, c13, c14, e⟩) (rng 0 2) (GE s nums 0 .no .no .no .no .no .no .no .no .no .no .no .no .no)
    ⟨0, .no, .no, .no, .no, .no, .no, .no, .no, .no, .no, .no, .no, .no, ⟨o0, NO, NO, NO, NO, NO, .inl rfl, NO, .inl rfl, .inl rfl, NO, .inl rfl, NO, NO⟩, rfl⟩
  have p1 : (sFor (.name 2) (iRange1 (ov (sK (.int 2)))) (fb14_10 (callF fns 59))) (GE s nums 0 .no .no .no .no .no .no .no .no .no .no .no .no .no) = .ok .next ρ1 := f1
  refine ⟨[], ?_⟩
  rw [call_eq 59 14 _ _ rfl]
  have hb : fb14 (callF fns 59) [.fr s, .no, .no, .no, .no, .no, .no, .no, .no, .no, .no, .no, .no, .no, .no] = .ok (.ret (.fr (.bl true))) ρ1 := by
    unfold fb14
    exact seq_to p0 (seq_to p1 rfl)
  exact run_r hb rfl rfl rfl rfl
end K68
namespace K68
open PySem PySem.Spec PyProof.Rows L2 DL
def topS (i : Nat) : Stmt := PySem.Challenge.pw_starless_k68_whole_kinds_of_words.main.body.getD i (.Pass ⟨0, 0, 0, 0⟩)
abbrev d0 : Stmt := topS 1
abbrev ps0 : List Str := ["word"]
abbrev ns0 : List Str := ["word"]
theorem sc0 : FnScope ns0 ps0 (defScope d0) := ⟨rfl, rfl, rfl, by decide +kernel, rfl, by decide +kernel, by decide +kernel⟩
abbrev d1 : Stmt := topS 3
abbrev ps1 : List Str := ["word", "letter", "at"]
abbrev ns1 : List Str := ["word", "letter", "at", "k"]
theorem sc1 : FnScope ns1 ps1 (defScope d1) := ⟨rfl, rfl, rfl, by decide +kernel, rfl, by decide +kernel, by decide +kernel⟩
abbrev d2 : Stmt := topS 4
abbrev ps2 : List Str := ["letters", "one", "other"]
abbrev ns2 : List Str := ["letters", "one", "other", "queue", "met", "at", "first", "second", "piece", "letter", "places"]
theorem sc2 : FnScope ns2 ps2 (defScope d2) := ⟨rfl, rfl, rfl, by decide +kernel, rfl, by decide +kernel, by decide +kernel⟩
abbrev d3 : Stmt := topS 5
abbrev ps3 : List Str := ["letters", "one", "other", "most"]
abbrev ns3 : List Str := ["letters", "one", "other", "most", "piece"]
theorem sc3 : FnScope ns3 ps3 (defScope d3) := ⟨rfl, rfl, rfl, by decide +kernel, rfl, by decide +kernel, by decide +kernel⟩
abbrev d4 : Stmt := topS 6
abbrev ps4 : List Str := ["word", "most"]
abbrev ns4 : List Str := ["word", "most", "found", "letter", "piece"]
theorem sc4 : FnScope ns4 ps4 (defScope d4) := ⟨rfl, rfl, rfl, by decide +kernel, rfl, by decide +kernel, by decide +kernel⟩
abbrev d5 : Stmt := topS 7
abbrev ps5 : List Str := ["pieces", "letter", "most"]
abbrev ns5 : List Str := ["pieces", "letter", "most", "found", "piece"]
theorem sc5 : FnScope ns5 ps5 (defScope d5) := ⟨rfl, rfl, rfl, by decide +kernel, rfl, by decide +kernel, by decide +kernel⟩
abbrev d6 : Stmt := topS 8
abbrev ps6 : List Str := ["letters", "most"]
abbrev ns6 : List Str := ["letters", "most", "found", "queue", "at", "letter", "pieces"]
theorem sc6 : FnScope ns6 ps6 (defScope d6) := ⟨rfl, rfl, rfl, by decide +kernel, rfl, by decide +kernel, by decide +kernel⟩
abbrev d7 : Stmt := topS 9
abbrev ps7 : List Str := ["letters", "word", "most"]
abbrev ns7 : List Str := ["letters", "word", "most", "due", "one"]
theorem sc7 : FnScope ns7 ps7 (defScope d7) := ⟨rfl, rfl, rfl, by decide +kernel, rfl, by decide +kernel, by decide +kernel⟩
abbrev d8 : Stmt := topS 11
abbrev ps8 : List Str := ["script"]
abbrev ns8 : List Str := ["script", "numbers", "cell", "rest", "mixed", "k"]
theorem sc8 : FnScope ns8 ps8 (defScope d8) := ⟨rfl, rfl, rfl, by decide +kernel, rfl, by decide +kernel, by decide +kernel⟩
abbrev d9 : Stmt := topS 12
abbrev ps9 : List Str := ["draws", "bound"]
abbrev ns9 : List Str := ["draws", "bound", "at"]
theorem sc9 : FnScope ns9 ps9 (defScope d9) := ⟨rfl, rfl, rfl, by decide +kernel, rfl, by decide +kernel, by decide +kernel⟩
abbrev d10 : Stmt := topS 13
abbrev ps10 : List Str := ["draws", "things"]
abbrev ns10 : List Str := ["draws", "things"]
theorem sc10 : FnScope ns10 ps10 (defScope d10) := ⟨rfl, rfl, rfl, by decide +kernel, rfl, by decide +kernel, by decide +kernel⟩
abbrev d11 : Stmt := topS 14
abbrev ps11 : List Str := ["letters", "longest"]
abbrev ns11 : List Str := ["letters", "longest", "found", "last", "turn", "news", "word", "letter"]
theorem sc11 : FnScope ns11 ps11 (defScope d11) := ⟨rfl, rfl, rfl, by decide +kernel, rfl, by decide +kernel, by decide +kernel⟩
abbrev d12 : Stmt := topS 15
abbrev ps12 : List Str := ["word"]
abbrev ns12 : List Str := ["word", "found", "letter", "one"]
theorem sc12 : FnScope ns12 ps12 (defScope d12) := ⟨rfl, rfl, rfl, by decide +kernel, rfl, by decide +kernel, by decide +kernel⟩
abbrev d13 : Stmt := topS 16
abbrev ps13 : List Str := ["word", "most"]
abbrev ns13 : List Str := ["word", "most", "piece"]
theorem sc13 : FnScope ns13 ps13 (defScope d13) := ⟨rfl, rfl, rfl, by decide +kernel, rfl, by decide +kernel, by decide +kernel⟩
abbrev d14 : Stmt := topS 17
abbrev ps14 : List Str := ["script"]
abbrev ns14 : List Str := ["script", "draws", "turn", "letters", "most", "kinds", "marks", "word", "due", "mark", "letter", "again", "k", "told", "more"]
theorem sc14 : FnScope ns14 ps14 (defScope d14) := ⟨rfl, rfl, rfl, by decide +kernel, rfl, by decide +kernel, by decide +kernel⟩
structure Tx (clsV : Nat → Value) (P : Program) (w : World) (K : PySem.W.Frag) (mg : Str → Option Value) (A : Nat → Addr) (fd : Nat → FuncData) : Prop where
  n_abs : mg "abs" = none
  n_dict : mg "dict" = none
  n_int : mg "int" = none
  n_len : mg "len" = none
  n_list : mg "list" = none
  n_range : mg "range" = none
  n_set : mg "set" = none
  n_sorted : mg "sorted" = none
  n_tuple : mg "tuple" = none
  f0 : Fun K "order_of" "order_of" d0 (A 0) (fd 0)
  b0 : Binds K (fd 0) ps0 []
  g0 : mg "order_of" = some (.ref (A 0))
  f1 : Fun K "behind_first" "behind_first" d1 (A 1) (fd 1)
  b1 : Binds K (fd 1) ps1 []
  g1 : mg "behind_first" = some (.ref (A 1))
  f2 : Fun K "apart_by" "apart_by" d2 (A 2) (fd 2)
  b2 : Binds K (fd 2) ps2 []
  g2 : mg "apart_by" = some (.ref (A 2))
  f3 : Fun K "apart_up_to" "apart_up_to" d3 (A 3) (fd 3)
  b3 : Binds K (fd 3) ps3 []
  g3 : mg "apart_up_to" = some (.ref (A 3))
  f4 : Fun K "pieces_up_to" "pieces_up_to" d4 (A 4) (fd 4)
  b4 : Binds K (fd 4) ps4 []
  g4 : mg "pieces_up_to" = some (.ref (A 4))
  f5 : Fun K "gone_on" "gone_on" d5 (A 5) (fd 5)
  b5 : Binds K (fd 5) ps5 []
  g5 : mg "gone_on" = some (.ref (A 5))
  f6 : Fun K "kinds_of" "kinds_of" d6 (A 6) (fd 6)
  b6 : Binds K (fd 6) ps6 []
  g6 : mg "kinds_of" = some (.ref (A 6))
  f7 : Fun K "least_same" "least_same" d7 (A 7) (fd 7)
  b7 : Binds K (fd 7) ps7 []
  g7 : mg "least_same" = some (.ref (A 7))
  f8 : Fun K "_law_draws" "_law_draws" d8 (A 8) (fd 8)
  b8 : Binds K (fd 8) ps8 []
  g8 : mg "_law_draws" = some (.ref (A 8))
  f9 : Fun K "_law_next" "_law_next" d9 (A 9) (fd 9)
  b9 : Binds K (fd 9) ps9 []
  g9 : mg "_law_next" = some (.ref (A 9))
  f10 : Fun K "_law_pick" "_law_pick" d10 (A 10) (fd 10)
  b10 : Binds K (fd 10) ps10 []
  g10 : mg "_law_pick" = some (.ref (A 10))
  f11 : Fun K "_law_words" "_law_words" d11 (A 11) (fd 11)
  b11 : Binds K (fd 11) ps11 []
  g11 : mg "_law_words" = some (.ref (A 11))
  f12 : Fun K "_law_left" "_law_left" d12 (A 12) (fd 12)
  b12 : Binds K (fd 12) ps12 []
  g12 : mg "_law_left" = some (.ref (A 12))
  f13 : Fun K "_law_kind" "_law_kind" d13 (A 13) (fd 13)
  b13 : Binds K (fd 13) ps13 []
  g13 : mg "_law_kind" = some (.ref (A 13))
  f14 : Fun K "law" "law" d14 (A 14) (fd 14)
  b14 : Binds K (fd 14) ps14 []
  g14 : mg "law" = some (.ref (A 14))
theorem isOrd {clsV : Nat → Value} {P : Program} {w : World} {K : PySem.W.Frag} {mg : Str → Option Value} {A : Nat → Addr} {fd : Nat → FuncData} (T : Tx clsV P w K mg A fd) : IsOrd K mg d0 (A 0) (fd 0) ns0 := ⟨T.f0, sc0, T.b0, ⟨_, _, _, _, _, _, _, rfl⟩, rfl, .inl rfl, rfl, T.n_len⟩
structure Oks (clsV : Nat → Value) (P : Program) (w : World) (K : PySem.W.Frag) (mg : Str → Option Value) (base : Heap) (A : Nat → Addr) (fd : Nat → FuncData) (n : Nat) : Prop where
  o0 : FnOk P w K mg base (L2.CX P w) (n + 2) (A 0) (fd 0) ps0 (spF clsV K (callF fns n) 0 0)
  o1 : FnOk P w K mg base (L2.CX P w) (n + 2) (A 1) (fd 1) ps1 (spF clsV K (callF fns n) 1 0)
  o2 : FnOk P w K mg base (L2.CX P w) (n + 2) (A 2) (fd 2) ps2 (spF clsV K (callF fns n) 2 0)
  o3 : FnOk P w K mg base (L2.CX P w) (n + 2) (A 3) (fd 3) ps3 (spF clsV K (callF fns n) 3 0)
  o4 : FnOk P w K mg base (L2.CX P w) (n + 2) (A 4) (fd 4) ps4 (spF clsV K (callF fns n) 4 0)
  o5 : FnOk P w K mg base (L2.CX P w) (n + 2) (A 5) (fd 5) ps5 (spF clsV K (callF fns n) 5 0)
  o6 : FnOk P w K mg base (L2.CX P w) (n + 2) (A 6) (fd 6) ps6 (spF clsV K (callF fns n) 6 0)
  o7 : FnOk P w K mg base (L2.CX P w) (n + 2) (A 7) (fd 7) ps7 (spF clsV K (callF fns n) 7 0)
  o8 : FnOk P w K mg base (L2.CX P w) (n + 2) (A 8) (fd 8) ps8 (spF clsV K (callF fns n) 8 0)
  o9 : FnOk P w K mg base (L2.CX P w) (n + 2) (A 9) (fd 9) ps9 (spF clsV K (callF fns n) 9 1)
  o10 : FnOk P w K mg base (L2.CX P w) (n + 2) (A 10) (fd 10) ps10 (spF clsV K (callF fns n) 10 1)
  o11 : FnOk P w K mg base (L2.CX P w) (n + 2) (A 11) (fd 11) ps11 (spF clsV K (callF fns n) 11 0)
  o12 : FnOk P w K mg base (L2.CX P w) (n + 2) (A 12) (fd 12) ps12 (spF clsV K (callF fns n) 12 0)
  o13 : FnOk P w K mg base (L2.CX P w) (n + 2) (A 13) (fd 13) ps13 (spF clsV K (callF fns n) 13 0)
  o14 : FnOk P w K mg base (L2.CX P w) (n + 2) (A 14) (fd 14) ps14 (spF clsV K (callF fns n) 14 0)
section
variable {clsV : Nat → Value} {P : Program} {w : World} {K : PySem.W.Frag} {mg : Str → Option Value} {base : Heap} {A : Nat → Addr} {fd : Nat → FuncData} {n : Nat}
theorem ok0 (T : Tx clsV P w K mg A fd) (O : Oks clsV P w K mg base A fd n) : FnOk P w K mg base (L2.CX P w) (n + 2 + 1) (A 0) (fd 0) ps0 (spF clsV K (callF fns (n + 1)) 0 0) :=
  fn_okF (fn := ⟨1, 0, 1, fb0⟩) T.f0 sc0 rfl rfl rfl fun cdv A' outer s H E hr =>
    (s_one (s_ret (e_tup (l_cons (e_fz (e_len rfl T.n_len (os_cons (xo 0) os_nil))) (l_cons (e_fz (xv 0)) l_nil)))))
theorem ok1 (T : Tx clsV P w K mg A fd) (O : Oks clsV P w K mg base A fd n) : FnOk P w K mg base (L2.CX P w) (n + 2 + 1) (A 1) (fd 1) ps1 (spF clsV K (callF fns (n + 1)) 1 0) :=
  fn_okF (fn := ⟨3, 0, 4, fb1⟩) T.f1 sc1 rfl rfl rfl fun cdv A' outer s H E hr =>
    (s_cons (s_for (passes_of rfl) rfl (i_range2 rfl T.n_range (xo 2) (e_ov (e_len rfl T.n_len (os_cons (xo 0) os_nil)))) (xn sc1.nd 3) (s_one (s_if (t_eq (hr.units) (e_ov (e_idx (hr.units) (xo 0) (xo 3))) (xo 1)) (s_one (s_ret (e_add (xo 3) (e_ov e_int)))) s_nil)))
    (s_one (s_ret e_non)))
theorem ok2 (T : Tx clsV P w K mg A fd) (O : Oks clsV P w K mg base A fd n) : FnOk P w K mg base (L2.CX P w) (n + 2 + 1) (A 2) (fd 2) ps2 (spF clsV K (callF fns (n + 1)) 2 0) :=
  fn_okF (fn := ⟨3, 0, 11, fb2⟩) T.f2 sc2 rfl rfl rfl fun cdv A' outer s H E hr =>
    (s_cons (s_set (i := 3) sc2.nd rfl (by first | exact .inl rfl | exact .inr rfl) (e_lst (l_cons (e_fz (e_tup (l_cons (e_fz e_int) (l_cons (e_fz e_int) (l_cons (e_fz (e_str (by rfl))) l_nil))))) l_nil)))
    (s_cons (s_set (i := 4) sc2.nd rfl (by first | exact .inl rfl | exact .inr rfl) (e_dispT (hr.units) (e_fz (e_tup (l_cons (e_fz e_int) (l_cons (e_fz e_int) l_nil)))) (e_fz e_bl)))
    (s_cons (s_set (i := 5) sc2.nd rfl (by first | exact .inl rfl | exact .inr rfl) e_int)
    (s_cons (s_while (passes_of rfl) (t_lt (xo 5) (e_ov (e_len rfl T.n_len (os_cons (xo 3) os_nil)))) (s_cons (s_asg (e_fz (e_idx (hr.units) (xo 3) (xo 5))) (g_tup rfl (gs_cons (xn sc2.nd 6) (gs_cons (xn sc2.nd 7) (gs_cons (xn sc2.nd 8) gs_nil)))))
    (s_cons (s_for (passes_of rfl) rfl (i_seq (e_fz (xv 0))) (xn sc2.nd 9) (s_cons (s_set (i := 10) sc2.nd rfl (by first | exact .inl rfl | exact .inr rfl) (e_tup (l_cons (e_fz (e_call0 O.o1 hr (takes_of rfl rfl rfl rfl) rfl T.g1 T.f1.kp T.b1 (l_cons (e_fz (xv 1)) (l_cons (e_fz (xv 9)) (l_cons (e_fz (xv 6)) l_nil))))) (l_cons (e_fz (e_call0 O.o1 hr (takes_of rfl rfl rfl rfl) rfl T.g1 T.f1.kp T.b1 (l_cons (e_fz (xv 2)) (l_cons (e_fz (xv 9)) (l_cons (e_fz (xv 7)) l_nil))))) l_nil))))
    (s_cons (s_if (t_ne (hr.units) (e_ov (e_isN (e_ov (e_idx (hr.units) (xo 10) (e_ov e_int))))) (e_ov (e_isN (e_ov (e_idx (hr.units) (xo 10) (e_ov e_int)))))) (s_one (s_ret (e_add (xo 8) (xo 9)))) s_nil)
    (s_one (s_if (t_w (w_and (t_notN (e_ov (e_idx (hr.units) (xo 10) (e_ov e_int)))) (w_and1 (t_nin (hr.units) (xo 10) (xo 4))))) (s_cons (s_setItem (i := 4) (hr.units) rfl (by first | exact .inl rfl | exact .inr (.inl rfl) | exact .inr (.inr rfl)) (e_fz e_bl) (e_fz (xv 10)))
    (s_one (s_expr (e_append (i := 3) rfl (by first | exact .inl rfl | exact .inr (.inl rfl) | exact .inr (.inr rfl)) (e_fz (e_add (xo 10) (e_ov (e_tup (l_cons (e_fz (e_add (xo 8) (xo 9))) l_nil))))))))) s_nil)))))
    (s_one (s_augAdd (i := 5) sc2.nd rfl (by first | exact .inl rfl | exact .inr rfl) (e_ov e_int))))))
    (s_one (s_ret e_non))))))
theorem ok3 (T : Tx clsV P w K mg A fd) (O : Oks clsV P w K mg base A fd n) : FnOk P w K mg base (L2.CX P w) (n + 2 + 1) (A 3) (fd 3) ps3 (spF clsV K (callF fns (n + 1)) 3 0) :=
  fn_okF (fn := ⟨4, 0, 5, fb3⟩) T.f3 sc3 rfl rfl rfl fun cdv A' outer s H E hr =>
    (s_cons (s_set (i := 4) sc3.nd rfl (by first | exact .inl rfl | exact .inr rfl) (e_call0 O.o2 hr (takes_of rfl rfl rfl rfl) rfl T.g2 T.f2.kp T.b2 (l_cons (e_fz (xv 0)) (l_cons (e_fz (xv 1)) (l_cons (e_fz (xv 2)) l_nil)))))
    (s_one (s_ret (e_if (t_w (w_or (t_isN (xo 4)) (w_or1 (t_gt (e_ov (e_len rfl T.n_len (os_cons (xo 4) os_nil))) (xo 3))))) e_non (xv 4)))))
theorem ok4 (T : Tx clsV P w K mg A fd) (O : Oks clsV P w K mg base A fd n) : FnOk P w K mg base (L2.CX P w) (n + 2 + 1) (A 4) (fd 4) ps4 (spF clsV K (callF fns (n + 1)) 4 0) :=
  fn_okF (fn := ⟨2, 0, 5, fb4⟩) T.f4 sc4 rfl rfl rfl fun cdv A' outer s H E hr =>
    (s_cons (s_set (i := 2) sc4.nd rfl (by first | exact .inl rfl | exact .inr rfl) (e_disp (p_cons (e_fz (e_str (by rfl))) (e_fz e_bl) p_nil)))
    (s_cons (s_for (passes_of rfl) rfl (i_seq (e_fz (xv 0))) (xn sc4.nd 3) (s_one (s_for (passes_of rfl) rfl (i_seq (e_fz (e_listK rfl rfl T.n_list (os_cons (xo 2) os_nil)))) (xn sc4.nd 4) (s_one (s_if (t_lt (e_ov (e_len rfl T.n_len (os_cons (xo 4) os_nil))) (xo 1)) (s_one (s_setItem (i := 2) (hr.units) rfl (by first | exact .inl rfl | exact .inr (.inl rfl) | exact .inr (.inr rfl)) (e_fz e_bl) (e_fz (e_add (xo 4) (xo 3))))) s_nil)))))
    (s_one (s_ret (e_sortOrd (isOrd T) hr rfl rfl T.n_sorted rfl T.g0 (os_cons (xo 2) os_nil))))))
theorem ok5 (T : Tx clsV P w K mg A fd) (O : Oks clsV P w K mg base A fd n) : FnOk P w K mg base (L2.CX P w) (n + 2 + 1) (A 5) (fd 5) ps5 (spF clsV K (callF fns (n + 1)) 5 0) :=
  fn_okF (fn := ⟨3, 0, 5, fb5⟩) T.f5 sc5 rfl rfl rfl fun cdv A' outer s H E hr =>
    (s_cons (by first | exact (s_setDc (i := 3) (own := [(("piece" : Str), 4)]) rfl sc5.nd rfl rfl (swD_true rfl rfl rfl (by rfl)) (i_seq (e_fz (xv 0))) (blkOk_by (by rfl)) (by decide) (fun _ _ _ _ _ => (xn sc5.nd 4)) (fun _ _ _ _ _ => ts_nil) (fun _ _ _ _ _ => (e_fz (xv 4))) (fun _ _ _ _ _ => (e_fz e_bl))) | exact (s_set (i := 3) sc5.nd rfl (by first | exact .inl rfl | exact .inr rfl) (e_dc (own := [(("piece" : Str), 4)]) rfl sc5.nd (i_seq (e_fz (xv 0))) (blkOk_by (by rfl)) (by decide) (fun _ _ _ _ _ => (xn sc5.nd 4)) (fun _ _ _ _ _ => ts_nil) (fun _ _ _ _ _ => (e_fz (xv 4))) (fun _ _ _ _ _ => (e_fz e_bl)))))
    (s_cons (s_for (passes_of rfl) rfl (i_seq (e_fz (xv 0))) (xn sc5.nd 4) (s_one (s_if (t_lt (e_ov (e_len rfl T.n_len (os_cons (xo 4) os_nil))) (xo 2)) (s_one (s_setItem (i := 3) (hr.units) rfl (by first | exact .inl rfl | exact .inr (.inl rfl) | exact .inr (.inr rfl)) (e_fz e_bl) (e_fz (e_add (xo 4) (xo 1))))) s_nil)))
    (s_one (s_ret (e_tupleT rfl T.n_tuple (os_cons (e_ov (e_sortOrd (isOrd T) hr rfl rfl T.n_sorted rfl T.g0 (os_cons (xo 3) os_nil))) os_nil))))))
theorem ok6 (T : Tx clsV P w K mg A fd) (O : Oks clsV P w K mg base A fd n) : FnOk P w K mg base (L2.CX P w) (n + 2 + 1) (A 6) (fd 6) ps6 (spF clsV K (callF fns (n + 1)) 6 0) :=
  fn_okF (fn := ⟨2, 0, 7, fb6⟩) T.f6 sc6 rfl rfl rfl fun cdv A' outer s H E hr =>
    (s_cons (s_set (i := 2) sc6.nd rfl (by first | exact .inl rfl | exact .inr rfl) (e_dispT (hr.units) (e_fz (e_tup (l_cons (e_fz (e_str (by rfl))) l_nil))) (e_fz (e_str (by rfl)))))
    (s_cons (s_set (i := 3) sc6.nd rfl (by first | exact .inl rfl | exact .inr rfl) (e_lst (l_cons (e_fz (e_tup (l_cons (e_fz (e_str (by rfl))) l_nil))) l_nil)))
    (s_cons (s_set (i := 4) sc6.nd rfl (by first | exact .inl rfl | exact .inr rfl) e_int)
    (s_cons (s_while (passes_of rfl) (t_lt (xo 4) (e_ov (e_len rfl T.n_len (os_cons (xo 3) os_nil)))) (s_cons (s_for (passes_of rfl) rfl (i_seq (e_fz (xv 0))) (xn sc6.nd 5) (s_cons (s_set (i := 6) sc6.nd rfl (by first | exact .inl rfl | exact .inr rfl) (e_call0 O.o5 hr (takes_of rfl rfl rfl rfl) rfl T.g5 T.f5.kp T.b5 (l_cons (e_fz (e_idx (hr.units) (xo 3) (xo 4))) (l_cons (e_fz (xv 5)) (l_cons (e_fz (xv 1)) l_nil)))))
    (s_one (s_if (t_nin (hr.units) (xo 6) (xo 2)) (s_cons (s_setItem (i := 2) (hr.units) rfl (by first | exact .inl rfl | exact .inr (.inl rfl) | exact .inr (.inr rfl)) (e_fz (e_add (e_ov (e_idx (hr.units) (xo 2) (e_ov (e_idx (hr.units) (xo 3) (xo 4))))) (xo 5))) (e_fz (xv 6)))
    (s_one (s_expr (e_append (i := 3) rfl (by first | exact .inl rfl | exact .inr (.inl rfl) | exact .inr (.inr rfl)) (e_fz (xv 6)))))) s_nil))))
    (s_one (s_augAdd (i := 4) sc6.nd rfl (by first | exact .inl rfl | exact .inr rfl) (e_ov e_int)))))
    (s_one (s_ret (e_lc (own := [(("pieces" : Str), 6)]) rfl sc6.nd (i_seq (e_fz (xv 3))) (blkOk_by (by rfl)) (by decide) (fun _ _ _ _ _ => (xn sc6.nd 6)) (fun _ _ _ _ _ => ts_nil) (fun _ _ _ _ _ => (e_fz (e_idx (hr.units) (xo 2) (xo 6)))))))))))
theorem ok7 (T : Tx clsV P w K mg A fd) (O : Oks clsV P w K mg base A fd n) : FnOk P w K mg base (L2.CX P w) (n + 2 + 1) (A 7) (fd 7) ps7 (spF clsV K (callF fns (n + 1)) 7 0) :=
  fn_okF (fn := ⟨3, 0, 5, fb7⟩) T.f7 sc7 rfl rfl rfl fun cdv A' outer s H E hr =>
    (s_cons (s_set (i := 3) sc7.nd rfl (by first | exact .inl rfl | exact .inr rfl) (e_tupleT rfl T.n_tuple (os_cons (e_ov (e_call0 O.o4 hr (takes_of rfl rfl rfl rfl) rfl T.g4 T.f4.kp T.b4 (l_cons (e_fz (xv 1)) (l_cons (e_fz (xv 2)) l_nil)))) os_nil)))
    (s_one (s_ret (e_idx (hr.units) (e_ov (e_lc (own := [(("one" : Str), 4)]) rfl sc7.nd (i_seq (e_fz (e_call0 O.o6 hr (takes_of rfl rfl rfl rfl) rfl T.g6 T.f6.kp T.b6 (l_cons (e_fz (xv 0)) (l_cons (e_fz (xv 2)) l_nil))))) (blkOk_by (by rfl)) (by decide) (fun _ _ _ _ _ => (xn sc7.nd 4)) (fun _ _ _ _ _ => (ts_one (t_eq (hr.units) (e_ov (e_tupleT rfl T.n_tuple (os_cons (e_ov (e_call0 O.o4 hr takes0 rfl T.g4 T.f4.kp T.b4 (l_cons (e_fz (xv 4)) (l_cons (e_fz (xv 2)) l_nil)))) os_nil))) (xo 3)))) (fun _ _ _ _ _ => (e_fz (xv 4))))) (e_ov e_int)))))
theorem ok8 (T : Tx clsV P w K mg A fd) (O : Oks clsV P w K mg base A fd n) : FnOk P w K mg base (L2.CX P w) (n + 2 + 1) (A 8) (fd 8) ps8 (spF clsV K (callF fns (n + 1)) 8 0) :=
  fn_okF (fn := ⟨1, 0, 6, fb8⟩) T.f8 sc8 rfl rfl rfl fun cdv A' outer s H E hr =>
    (s_cons (s_set (i := 1) sc8.nd rfl (by first | exact .inl rfl | exact .inr rfl) (e_lst l_nil))
    (s_cons (s_for (passes_of rfl) rfl (i_seq (e_fz (e_add (e_ov (e_listT rfl rfl T.n_list (os_cons (e_ov (e_slc (xo 0) o_none (o_some (e_ov e_int)))) os_nil))) (e_ov (e_lst (l_cons (e_fz e_int) l_nil)))))) (xn sc8.nd 2) (s_cons (s_set (i := 3) sc8.nd rfl (by first | exact .inl rfl | exact .inr rfl) (e_abs rfl T.n_abs (os_cons (e_ov (e_intT rfl T.n_int (os_cons (xo 2) os_nil))) os_nil)))
    (s_cons (s_set (i := 4) sc8.nd rfl (by first | exact .inl rfl | exact .inr rfl) (e_add (e_ov (e_mod (e_ov (e_intT rfl T.n_int (os_cons (xo 2) os_nil))) (e_ov e_int))) (e_ov e_int)))
    (s_one (s_for (passes_of rfl) rfl (i_range1 rfl T.n_range (e_ov e_int)) (xn sc8.nd 5) (s_one (s_if (t_ge (xo 3) (e_ov e_int)) (s_cons (s_expr (e_append (i := 1) rfl (by first | exact .inl rfl | exact .inr (.inl rfl) | exact .inr (.inr rfl)) (e_fz (e_mod (e_ov (e_intT rfl T.n_int (os_cons (xo 3) os_nil))) (e_ov e_int)))))
    (s_one (s_set (i := 3) sc8.nd rfl (by first | exact .inl rfl | exact .inr rfl) (e_fdiv (xo 3) (e_ov e_int))))) (s_cons (s_set (i := 4) sc8.nd rfl (by first | exact .inl rfl | exact .inr rfl) (e_mod (e_ov (e_intT rfl T.n_int (os_cons (e_ov (e_add (e_ov (e_add (e_ov (e_add (e_ov (e_mul (xo 4) (e_ov e_int))) (e_ov (e_mul (e_ov e_int) (xo 5))))) (e_ov e_int))) (xo 3))) os_nil))) (e_ov e_int)))
    (s_one (s_expr (e_append (i := 1) rfl (by first | exact .inl rfl | exact .inr (.inl rfl) | exact .inr (.inr rfl)) (e_fz (e_mod (e_ov (e_intT rfl T.n_int (os_cons (e_ov (e_fdiv (e_ov (e_mul (xo 4) (e_ov e_int))) (e_ov e_int))) os_nil))) (e_ov e_int))))))))))))))
    (s_one (s_ret (e_disp (p_cons (e_fz (e_str (by rfl))) (e_fz (xv 1)) (p_cons (e_fz (e_str (by rfl))) (e_fz e_int) p_nil)))))))
theorem ok9 (T : Tx clsV P w K mg A fd) (O : Oks clsV P w K mg base A fd n) : FnOk P w K mg base (L2.CX P w) (n + 2 + 1) (A 9) (fd 9) ps9 (spF clsV K (callF fns (n + 1)) 9 1) :=
  fn_okF (fn := ⟨2, 1, 3, fb9⟩) T.f9 sc9 rfl rfl rfl fun cdv A' outer s H E hr =>
    (s_cons (s_set (i := 2) sc9.nd rfl (by first | exact .inl rfl | exact .inr rfl) (e_intT rfl T.n_int (os_cons (e_ov (e_idx (hr.units) (xo 0) (e_ov (e_str (by rfl))))) os_nil)))
    (s_cons (s_setItem (i := 0) (hr.units) rfl (by first | exact .inl rfl | exact .inr (.inl rfl) | exact .inr (.inr rfl)) (e_fz (e_add (xo 2) (e_ov e_int))) (e_fz (e_str (by rfl))))
    (s_one (s_ret (e_mod (e_ov (e_intT rfl T.n_int (os_cons (e_ov (e_add (e_ov (e_idx (hr.units) (e_ov (e_idx (hr.units) (xo 0) (e_ov (e_str (by rfl))))) (e_ov (e_mod (xo 2) (e_ov (e_len rfl T.n_len (os_cons (e_ov (e_idx (hr.units) (xo 0) (e_ov (e_str (by rfl))))) os_nil))))))) (e_ov (e_mul (e_ov e_int) (e_ov (e_fdiv (xo 2) (e_ov (e_len rfl T.n_len (os_cons (e_ov (e_idx (hr.units) (xo 0) (e_ov (e_str (by rfl))))) os_nil))))))))) os_nil))) (xo 1))))))
theorem ok10 (T : Tx clsV P w K mg A fd) (O : Oks clsV P w K mg base A fd n) : FnOk P w K mg base (L2.CX P w) (n + 2 + 1) (A 10) (fd 10) ps10 (spF clsV K (callF fns (n + 1)) 10 1) :=
  fn_okF (fn := ⟨2, 1, 2, fb10⟩) T.f10 sc10 rfl rfl rfl fun cdv A' outer s H E hr =>
    (s_one (s_ret (e_idx (hr.units) (xo 1) (e_ov (e_call1 (i := 0) O.o9 hr (takes_of rfl rfl rfl rfl) rfl T.g9 T.f9.kp T.b9 rfl (by first | exact .inl rfl | exact .inr (.inl rfl) | exact .inr (.inr rfl)) (l_cons (e_fz (e_len rfl T.n_len (os_cons (xo 1) os_nil))) l_nil))))))
theorem ok11 (T : Tx clsV P w K mg A fd) (O : Oks clsV P w K mg base A fd n) : FnOk P w K mg base (L2.CX P w) (n + 2 + 1) (A 11) (fd 11) ps11 (spF clsV K (callF fns (n + 1)) 11 0) :=
  fn_okF (fn := ⟨2, 0, 8, fb11⟩) T.f11 sc11 rfl rfl rfl fun cdv A' outer s H E hr =>
    (s_cons (s_set (i := 2) sc11.nd rfl (by first | exact .inl rfl | exact .inr rfl) (e_lst (l_cons (e_fz (e_str (by rfl))) l_nil)))
    (s_cons (s_set (i := 3) sc11.nd rfl (by first | exact .inl rfl | exact .inr rfl) (e_lst (l_cons (e_fz (e_str (by rfl))) l_nil)))
    (s_cons (s_for (passes_of rfl) rfl (i_range1 rfl T.n_range (xo 1)) (xn sc11.nd 4) (s_cons (s_set (i := 5) sc11.nd rfl (by first | exact .inl rfl | exact .inr rfl) (e_lst l_nil))
    (s_cons (s_for (passes_of rfl) rfl (i_seq (e_fz (xv 3))) (xn sc11.nd 6) (s_one (s_set (i := 5) sc11.nd rfl (by first | exact .inl rfl | exact .inr rfl) (e_add (xo 5) (e_ov (e_lc (own := [(("letter" : Str), 7)]) rfl sc11.nd (i_seq (e_fz (xv 0))) (blkOk_by (by rfl)) (by decide) (fun _ _ _ _ _ => (xn sc11.nd 7)) (fun _ _ _ _ _ => ts_nil) (fun _ _ _ _ _ => (e_fz (e_add (xo 6) (xo 7))))))))))
    (s_cons (s_set (i := 2) sc11.nd rfl (by first | exact .inl rfl | exact .inr rfl) (e_add (xo 2) (xo 5)))
    (s_one (s_set (i := 3) sc11.nd rfl (by first | exact .inl rfl | exact .inr rfl) (xv 5)))))))
    (s_one (s_retV (i := 2) rfl (by first | exact .inl rfl | exact .inr (.inl rfl) | exact .inr (.inr rfl)))))))
theorem ok12 (T : Tx clsV P w K mg A fd) (O : Oks clsV P w K mg base A fd n) : FnOk P w K mg base (L2.CX P w) (n + 2 + 1) (A 12) (fd 12) ps12 (spF clsV K (callF fns (n + 1)) 12 0) :=
  fn_okF (fn := ⟨1, 0, 4, fb12⟩) T.f12 sc12 rfl rfl rfl fun cdv A' outer s H E hr =>
    (s_cons (s_set (i := 1) sc12.nd rfl (by first | exact .inl rfl | exact .inr rfl) (e_lst (l_cons (e_fz (e_str (by rfl))) l_nil)))
    (s_cons (s_for (passes_of rfl) rfl (i_seq (e_fz (xv 0))) (xn sc12.nd 2) (s_one (s_set (i := 1) sc12.nd rfl (by first | exact .inl rfl | exact .inr rfl) (e_add (xo 1) (e_ov (e_lc (own := [(("one" : Str), 3)]) rfl sc12.nd (i_seq (e_fz (xv 1))) (blkOk_by (by rfl)) (by decide) (fun _ _ _ _ _ => (xn sc12.nd 3)) (fun _ _ _ _ _ => ts_nil) (fun _ _ _ _ _ => (e_fz (e_add (xo 3) (xo 2))))))))))
    (s_one (s_ret (e_sortSet rfl rfl T.n_sorted rfl T.n_set (os_cons (xo 1) os_nil))))))
theorem ok13 (T : Tx clsV P w K mg A fd) (O : Oks clsV P w K mg base A fd n) : FnOk P w K mg base (L2.CX P w) (n + 2 + 1) (A 13) (fd 13) ps13 (spF clsV K (callF fns (n + 1)) 13 0) :=
  fn_okF (fn := ⟨2, 0, 3, fb13⟩) T.f13 sc13 rfl rfl rfl fun cdv A' outer s H E hr =>
    (s_one (s_ret (e_tupleT rfl T.n_tuple (os_cons (e_ov (e_lc (own := [(("piece" : Str), 2)]) rfl sc13.nd (i_seq (e_fz (e_call0 O.o12 hr (takes_of rfl rfl rfl rfl) rfl T.g12 T.f12.kp T.b12 (l_cons (e_fz (xv 0)) l_nil)))) (blkOk_by (by rfl)) (by decide) (fun _ _ _ _ _ => (xn sc13.nd 2)) (fun _ _ _ _ _ => (ts_one (t_le (e_ov (e_len rfl T.n_len (os_cons (xo 2) os_nil))) (xo 1)))) (fun _ _ _ _ _ => (e_fz (xv 2))))) os_nil))))
theorem ok14 (T : Tx clsV P w K mg A fd) (O : Oks clsV P w K mg base A fd n) : FnOk P w K mg base (L2.CX P w) (n + 2 + 1) (A 14) (fd 14) ps14 (spF clsV K (callF fns (n + 1)) 14 0) :=
  fn_okF (fn := ⟨1, 0, 15, fb14⟩) T.f14 sc14 rfl rfl rfl fun cdv A' outer s H E hr =>
    (s_cons (s_set (i := 1) sc14.nd rfl (by first | exact .inl rfl | exact .inr rfl) (e_call0 O.o8 hr (takes_of rfl rfl rfl rfl) rfl T.g8 T.f8.kp T.b8 (l_cons (e_fz (xv 0)) l_nil)))
    (s_cons (s_for (passes_of rfl) rfl (i_range1 rfl T.n_range (e_ov e_int)) (xn sc14.nd 2) (s_cons (s_asg (e_fz (e_call1 (i := 1) O.o10 hr (takes_of rfl rfl rfl rfl) rfl T.g10 T.f10.kp T.b10 rfl (by first | exact .inl rfl | exact .inr (.inl rfl) | exact .inr (.inr rfl)) (l_cons (e_fz (e_lst (l_cons (e_fz (e_tup (l_cons (e_fz (e_str (by rfl))) (l_cons (e_fz e_int) l_nil)))) (l_cons (e_fz (e_tup (l_cons (e_fz (e_str (by rfl))) (l_cons (e_fz e_int) l_nil)))) (l_cons (e_fz (e_tup (l_cons (e_fz (e_str (by rfl))) (l_cons (e_fz e_int) l_nil)))) (l_cons (e_fz (e_tup (l_cons (e_fz (e_str (by rfl))) (l_cons (e_fz e_int) l_nil)))) (l_cons (e_fz (e_tup (l_cons (e_fz (e_str (by rfl))) (l_cons (e_fz e_int) l_nil)))) (l_cons (e_fz (e_tup (l_cons (e_fz (e_str (by rfl))) (l_cons (e_fz e_int) l_nil)))) (l_cons (e_fz (e_tup (l_cons (e_fz (e_str (by rfl))) (l_cons (e_fz e_int) l_nil)))) l_nil))))))))) l_nil))) (g_tup rfl (gs_cons (xn sc14.nd 3) (gs_cons (xn sc14.nd 4) gs_nil))))
    (s_cons (s_set (i := 5) sc14.nd rfl (by first | exact .inl rfl | exact .inr rfl) (e_call0 O.o6 hr (takes_of rfl rfl rfl rfl) rfl T.g6 T.f6.kp T.b6 (l_cons (e_fz (xv 3)) (l_cons (e_fz (xv 4)) l_nil))))
    (s_cons (s_if (t_w (w_or (t_ne (hr.units) (e_ov (e_idx (hr.units) (xo 5) (e_ov e_int))) (e_ov (e_str (by rfl)))) (w_or1 (t_ne (hr.units) (xo 5) (e_ov (e_sortLen (hr.units) rfl T.n_sorted rfl T.n_len (os_cons (e_ov (e_sorted rfl T.n_sorted (os_cons (xo 5) os_nil))) os_nil))))))) (s_one (s_ret e_bl)) s_nil)
    (s_cons (s_set (i := 6) sc14.nd rfl (by first | exact .inl rfl | exact .inr rfl) (e_dictP rfl (hr.units) rfl T.n_dict (os_cons (e_ov (e_lc (own := [(("word" : Str), 7)]) rfl sc14.nd (i_seq (e_fz (xv 5))) (blkOk_by (by rfl)) (by decide) (fun _ _ _ _ _ => (xn sc14.nd 7)) (fun _ _ _ _ _ => ts_nil) (fun _ _ _ _ _ => (e_fz (e_tup (l_cons (e_fz (e_call0 O.o13 hr takes0 rfl T.g13 T.f13.kp T.b13 (l_cons (e_fz (xv 7)) (l_cons (e_fz (xv 4)) l_nil)))) (l_cons (e_fz (xv 7)) l_nil))))))) os_nil)))
    (s_cons (s_if (t_ne (hr.units) (e_ov (e_len rfl T.n_len (os_cons (xo 6) os_nil))) (e_ov (e_len rfl T.n_len (os_cons (xo 5) os_nil)))) (s_one (s_ret e_bl)) s_nil)
    (s_cons (s_set (i := 8) sc14.nd rfl (by first | exact .inl rfl | exact .inr rfl) e_dict0)
    (s_cons (s_for (passes_of rfl) rfl (i_seq (e_fz (e_call0 O.o11 hr (takes_of rfl rfl rfl rfl) rfl T.g11 T.f11.kp T.b11 (l_cons (e_fz (xv 3)) (l_cons (e_fz (e_if (t_lt (e_ov (e_len rfl T.n_len (os_cons (xo 3) os_nil))) (e_ov e_int)) e_int e_int)) l_nil))))) (xn sc14.nd 7) (s_cons (s_set (i := 9) sc14.nd rfl (by first | exact .inl rfl | exact .inr rfl) (e_call0 O.o13 hr (takes_of rfl rfl rfl rfl) rfl T.g13 T.f13.kp T.b13 (l_cons (e_fz (xv 7)) (l_cons (e_fz (xv 4)) l_nil))))
    (s_cons (s_if (t_nin (hr.units) (xo 9) (xo 8)) (s_one (s_setItem (i := 8) (hr.units) rfl (by first | exact .inl rfl | exact .inr (.inl rfl) | exact .inr (.inr rfl)) (e_fz (xv 7)) (e_fz (xv 9)))) s_nil)
    (s_one (s_if (t_ne (hr.units) (e_ov (e_get (i := 6) (hr.units) rfl (by first | exact .inl rfl | exact .inr (.inl rfl) | exact .inr (.inr rfl)) (e_fz (xv 9)) ⟨rfl, rfl, rfl, rfl⟩)) (e_ov (e_idx (hr.units) (xo 8) (xo 9)))) (s_one (s_ret e_bl)) s_nil)))))
    (s_cons (s_if (t_ne (hr.units) (e_ov (e_lc (own := [(("word" : Str), 7)]) rfl sc14.nd (i_seq (e_fz (xv 5))) (blkOk_by (by rfl)) (by decide) (fun _ _ _ _ _ => (xn sc14.nd 7)) (fun _ _ _ _ _ => (ts_one (t_le (e_ov (e_len rfl T.n_len (os_cons (xo 7) os_nil))) (e_ov e_int)))) (fun _ _ _ _ _ => (e_fz (xv 7))))) (e_ov (e_lc (own := [(("mark" : Str), 9)]) rfl sc14.nd (i_seq (e_fz (xv 8))) (blkOk_by (by rfl)) (by decide) (fun _ _ _ _ _ => (xn sc14.nd 9)) (fun _ _ _ _ _ => (ts_one (t_le (e_ov (e_len rfl T.n_len (os_cons (e_ov (e_idx (hr.units) (xo 8) (xo 9))) os_nil))) (e_ov e_int)))) (fun _ _ _ _ _ => (e_fz (e_idx (hr.units) (xo 8) (xo 9))))))) (s_one (s_ret e_bl)) s_nil)
    (s_cons (s_for (passes_of rfl) rfl (i_seq (e_fz (e_slc (xo 5) (o_some (e_ov e_neg)) o_none))) (xn sc14.nd 7) (s_one (s_for (passes_of rfl) rfl (i_seq (e_fz (xv 3))) (xn sc14.nd 10) (s_one (s_if (t_nin (hr.units) (e_ov (e_call0 O.o13 hr (takes_of rfl rfl rfl rfl) rfl T.g13 T.f13.kp T.b13 (l_cons (e_fz (e_add (xo 7) (xo 10))) (l_cons (e_fz (xv 4)) l_nil)))) (xo 6)) (s_one (s_ret e_bl)) s_nil)))))
    (s_one (s_for (passes_of rfl) rfl (i_range1 rfl T.n_range (e_ov e_int)) (xn sc14.nd 11) (s_cons (s_set (i := 7) sc14.nd rfl (by first | exact .inl rfl | exact .inr rfl) (e_join (by rfl) (e_ov (e_lc (own := [(("k" : Str), 12)]) rfl sc14.nd (i_range1 rfl T.n_range (e_ov (e_call1 (i := 1) O.o9 hr (takes_of rfl rfl rfl rfl) rfl T.g9 T.f9.kp T.b9 rfl (by first | exact .inl rfl | exact .inr (.inl rfl) | exact .inr (.inr rfl)) (l_cons (e_fz e_int) l_nil)))) (blkOk_by (by rfl)) (by decide) (fun _ _ _ _ _ => (xn sc14.nd 12)) (fun _ _ _ _ _ => ts_nil) (fun _ _ _ _ _ => (e_fz (e_call1 (i := 1) O.o10 hr takes0 rfl T.g10 T.f10.kp T.b10 rfl (by first | exact .inl rfl | exact .inr (.inl rfl) | exact .inr (.inr rfl)) (l_cons (e_fz (e_listT rfl rfl T.n_list (os_cons (xo 3) os_nil))) l_nil))))))))
    (s_cons (s_set (i := 13) sc14.nd rfl (by first | exact .inl rfl | exact .inr rfl) (e_call0 O.o7 hr (takes_of rfl rfl rfl rfl) rfl T.g7 T.f7.kp T.b7 (l_cons (e_fz (xv 3)) (l_cons (e_fz (xv 7)) (l_cons (e_fz (xv 4)) l_nil)))))
    (s_cons (s_if (t_w (w_or (t_ne (hr.units) (xo 13) (e_ov (e_idx (hr.units) (xo 6) (e_ov (e_call0 O.o13 hr (takes_of rfl rfl rfl rfl) rfl T.g13 T.f13.kp T.b13 (l_cons (e_fz (xv 7)) (l_cons (e_fz (xv 4)) l_nil))))))) (w_or1 (t_notN (e_ov (e_call0 O.o3 hr (takes_of rfl rfl rfl rfl) rfl T.g3 T.f3.kp T.b3 (l_cons (e_fz (xv 3)) (l_cons (e_fz (xv 7)) (l_cons (e_fz (xv 13)) (l_cons (e_fz (xv 4)) l_nil)))))))))) (s_one (s_ret e_bl)) s_nil)
    (s_cons (s_set (i := 14) sc14.nd rfl (by first | exact .inl rfl | exact .inr rfl) (e_call1 (i := 1) O.o10 hr (takes_of rfl rfl rfl rfl) rfl T.g10 T.f10.kp T.b10 rfl (by first | exact .inl rfl | exact .inr (.inl rfl) | exact .inr (.inr rfl)) (l_cons (e_fz (e_listT rfl rfl T.n_list (os_cons (xo 3) os_nil))) l_nil)))
    (s_one (s_if (t_w (w_or (t_ne (hr.units) (e_ov (e_call0 O.o4 hr (takes_of rfl rfl rfl rfl) rfl T.g4 T.f4.kp T.b4 (l_cons (e_fz (e_add (xo 7) (xo 14))) (l_cons (e_fz (xv 4)) l_nil)))) (e_ov (e_call0 O.o4 hr (takes_of rfl rfl rfl rfl) rfl T.g4 T.f4.kp T.b4 (l_cons (e_fz (e_add (xo 13) (xo 14))) (l_cons (e_fz (xv 4)) l_nil))))) (w_or1 (t_ne (hr.units) (e_ov (e_call0 O.o4 hr (takes_of rfl rfl rfl rfl) rfl T.g4 T.f4.kp T.b4 (l_cons (e_fz (e_add (xo 14) (xo 7))) (l_cons (e_fz (xv 4)) l_nil)))) (e_ov (e_call0 O.o4 hr (takes_of rfl rfl rfl rfl) rfl T.g4 T.f4.kp T.b4 (l_cons (e_fz (e_add (xo 14) (xo 13))) (l_cons (e_fz (xv 4)) l_nil)))))))) (s_one (s_ret e_bl)) s_nil))))))))))))))))))
    (s_one (s_ret e_bl))))
end
end K68
namespace K68
open PySem PySem.Spec PyProof.Rows L2 DL
section
variable {clsV : Nat → Value} {P : Program} {w : World} {K : PySem.W.Frag} {mg : Str → Option Value} {base : Heap} {A : Nat → Addr} {fd : Nat → FuncData}
theorem oks (T : Tx clsV P w K mg A fd) : ∀ n, Oks clsV P w K mg base A fd n
  | 0 => ⟨fn_zero, fn_zero, fn_zero, fn_zero, fn_zero, fn_zero, fn_zero, fn_zero, fn_zero, fn_zero, fn_zero, fn_zero, fn_zero, fn_zero, fn_zero⟩
  | n + 1 => have O := oks T n; ⟨ok0 T O, ok1 T O, ok2 T O, ok3 T O, ok4 T O, ok5 T O, ok6 T O, ok7 T O, ok8 T O, ok9 T O, ok10 T O, ok11 T O, ok12 T O, ok13 T O, ok14 T O⟩
end
/-- what the law is, with no program in sight -/
def Main : Prop := ∀ ns : List Int, ns.length ≤ 63 → ∃ os, callF fns 60 14 [.fr (.klst (ns.map D.int))] = .ok (.fr (.bl true)) os
theorem all_mk {P : Program} {w : World} {K : PySem.W.Frag} {h : Heap} {mg : Str → Option Value} {fa : Addr} (hM : Main) (X : K.In h) (G : h.Ns mainGlobals mg) (hfa : mg "law" = some (.ref fa))
    {f0 : Addr} {od0 an0 : Option Addr} {sl0 : Array (Option Value)} {oc0 kV0 dc0 pm0 cd0 ct0 : Value}
    {f1 : Addr} {od1 an1 : Option Addr} {sl1 : Array (Option Value)} {oc1 kV1 dc1 pm1 cd1 ct1 : Value}
    {f2 : Addr} {od2 an2 : Option Addr} {sl2 : Array (Option Value)} {oc2 kV2 dc2 pm2 cd2 ct2 : Value}
    {f3 : Addr} {od3 an3 : Option Addr} {sl3 : Array (Option Value)} {oc3 kV3 dc3 pm3 cd3 ct3 : Value}
    {f4 : Addr} {od4 an4 : Option Addr} {sl4 : Array (Option Value)} {oc4 kV4 dc4 pm4 cd4 ct4 : Value}
    {f5 : Addr} {od5 an5 : Option Addr} {sl5 : Array (Option Value)} {oc5 kV5 dc5 pm5 cd5 ct5 : Value}
    {f6 : Addr} {od6 an6 : Option Addr} {sl6 : Array (Option Value)} {oc6 kV6 dc6 pm6 cd6 ct6 : Value}
    {f7 : Addr} {od7 an7 : Option Addr} {sl7 : Array (Option Value)} {oc7 kV7 dc7 pm7 cd7 ct7 : Value}
    {f8 : Addr} {od8 an8 : Option Addr} {sl8 : Array (Option Value)} {oc8 kV8 dc8 pm8 cd8 ct8 : Value}
    {f9 : Addr} {od9 an9 : Option Addr} {sl9 : Array (Option Value)} {oc9 kV9 dc9 pm9 cd9 ct9 : Value}
    {f10 : Addr} {od10 an10 : Option Addr} {sl10 : Array (Option Value)} {oc10 kV10 dc10 pm10 cd10 ct10 : Value}
    {f11 : Addr} {od11 an11 : Option Addr} {sl11 : Array (Option Value)} {oc11 kV11 dc11 pm11 cd11 ct11 : Value}
    {f12 : Addr} {od12 an12 : Option Addr} {sl12 : Array (Option Value)} {oc12 kV12 dc12 pm12 cd12 ct12 : Value}
    {f13 : Addr} {od13 an13 : Option Addr} {sl13 : Array (Option Value)} {oc13 kV13 dc13 pm13 cd13 ct13 : Value}
    {f14 : Addr} {od14 an14 : Option Addr} {sl14 : Array (Option Value)} {oc14 kV14 dc14 pm14 cd14 ct14 : Value}
    (a0 : PySem.W.nsIn K mainGlobals "order_of" = some (some (.ref f0)))
    (l0 : K.lookup f0 = some ⟨oc0, od0, .func (PySem.W.fnOf "order_of" "order_of" (defArgs d0) (defBody d0) (defScope d0) .none kV0 dc0 pm0 an0 cd0 ct0), sl0⟩)
    (c0 : PySem.W.codeIn K cd0 "order_of" = true)
    (k0 : PySem.W.keepIn K (.ref f0) = true)
    (a1 : PySem.W.nsIn K mainGlobals "behind_first" = some (some (.ref f1)))
    (l1 : K.lookup f1 = some ⟨oc1, od1, .func (PySem.W.fnOf "behind_first" "behind_first" (defArgs d1) (defBody d1) (defScope d1) .none kV1 dc1 pm1 an1 cd1 ct1), sl1⟩)
    (c1 : PySem.W.codeIn K cd1 "behind_first" = true)
    (k1 : PySem.W.keepIn K (.ref f1) = true)
    (a2 : PySem.W.nsIn K mainGlobals "apart_by" = some (some (.ref f2)))
    (l2 : K.lookup f2 = some ⟨oc2, od2, .func (PySem.W.fnOf "apart_by" "apart_by" (defArgs d2) (defBody d2) (defScope d2) .none kV2 dc2 pm2 an2 cd2 ct2), sl2⟩)
    (c2 : PySem.W.codeIn K cd2 "apart_by" = true)
    (k2 : PySem.W.keepIn K (.ref f2) = true)
    (a3 : PySem.W.nsIn K mainGlobals "apart_up_to" = some (some (.ref f3)))
    (l3 : K.lookup f3 = some ⟨oc3, od3, .func (PySem.W.fnOf "apart_up_to" "apart_up_to" (defArgs d3) (defBody d3) (defScope d3) .none kV3 dc3 pm3 an3 cd3 ct3), sl3⟩)
    (c3 : PySem.W.codeIn K cd3 "apart_up_to" = true)
    (k3 : PySem.W.keepIn K (.ref f3) = true)
    (a4 : PySem.W.nsIn K mainGlobals "pieces_up_to" = some (some (.ref f4)))
    (l4 : K.lookup f4 = some ⟨oc4, od4, .func (PySem.W.fnOf "pieces_up_to" "pieces_up_to" (defArgs d4) (defBody d4) (defScope d4) .none kV4 dc4 pm4 an4 cd4 ct4), sl4⟩)
    (c4 : PySem.W.codeIn K cd4 "pieces_up_to" = true)
    (k4 : PySem.W.keepIn K (.ref f4) = true)
    (a5 : PySem.W.nsIn K mainGlobals "gone_on" = some (some (.ref f5)))
    (l5 : K.lookup f5 = some ⟨oc5, od5, .func (PySem.W.fnOf "gone_on" "gone_on" (defArgs d5) (defBody d5) (defScope d5) .none kV5 dc5 pm5 an5 cd5 ct5), sl5⟩)
    (c5 : PySem.W.codeIn K cd5 "gone_on" = true)
    (k5 : PySem.W.keepIn K (.ref f5) = true)
    (a6 : PySem.W.nsIn K mainGlobals "kinds_of" = some (some (.ref f6)))
    (l6 : K.lookup f6 = some ⟨oc6, od6, .func (PySem.W.fnOf "kinds_of" "kinds_of" (defArgs d6) (defBody d6) (defScope d6) .none kV6 dc6 pm6 an6 cd6 ct6), sl6⟩)
    (c6 : PySem.W.codeIn K cd6 "kinds_of" = true)
    (k6 : PySem.W.keepIn K (.ref f6) = true)
    (a7 : PySem.W.nsIn K mainGlobals "least_same" = some (some (.ref f7)))
    (l7 : K.lookup f7 = some ⟨oc7, od7, .func (PySem.W.fnOf "least_same" "least_same" (defArgs d7) (defBody d7) (defScope d7) .none kV7 dc7 pm7 an7 cd7 ct7), sl7⟩)
    (c7 : PySem.W.codeIn K cd7 "least_same" = true)
    (k7 : PySem.W.keepIn K (.ref f7) = true)
    (a8 : PySem.W.nsIn K mainGlobals "_law_draws" = some (some (.ref f8)))
    (l8 : K.lookup f8 = some ⟨oc8, od8, .func (PySem.W.fnOf "_law_draws" "_law_draws" (defArgs d8) (defBody d8) (defScope d8) .none kV8 dc8 pm8 an8 cd8 ct8), sl8⟩)
    (c8 : PySem.W.codeIn K cd8 "_law_draws" = true)
    (k8 : PySem.W.keepIn K (.ref f8) = true)
    (a9 : PySem.W.nsIn K mainGlobals "_law_next" = some (some (.ref f9)))
    (l9 : K.lookup f9 = some ⟨oc9, od9, .func (PySem.W.fnOf "_law_next" "_law_next" (defArgs d9) (defBody d9) (defScope d9) .none kV9 dc9 pm9 an9 cd9 ct9), sl9⟩)
    (c9 : PySem.W.codeIn K cd9 "_law_next" = true)
    (k9 : PySem.W.keepIn K (.ref f9) = true)
    (a10 : PySem.W.nsIn K mainGlobals "_law_pick" = some (some (.ref f10)))
    (l10 : K.lookup f10 = some ⟨oc10, od10, .func (PySem.W.fnOf "_law_pick" "_law_pick" (defArgs d10) (defBody d10) (defScope d10) .none kV10 dc10 pm10 an10 cd10 ct10), sl10⟩)
    (c10 : PySem.W.codeIn K cd10 "_law_pick" = true)
    (k10 : PySem.W.keepIn K (.ref f10) = true)
    (a11 : PySem.W.nsIn K mainGlobals "_law_words" = some (some (.ref f11)))
    (l11 : K.lookup f11 = some ⟨oc11, od11, .func (PySem.W.fnOf "_law_words" "_law_words" (defArgs d11) (defBody d11) (defScope d11) .none kV11 dc11 pm11 an11 cd11 ct11), sl11⟩)
    (c11 : PySem.W.codeIn K cd11 "_law_words" = true)
    (k11 : PySem.W.keepIn K (.ref f11) = true)
    (a12 : PySem.W.nsIn K mainGlobals "_law_left" = some (some (.ref f12)))
    (l12 : K.lookup f12 = some ⟨oc12, od12, .func (PySem.W.fnOf "_law_left" "_law_left" (defArgs d12) (defBody d12) (defScope d12) .none kV12 dc12 pm12 an12 cd12 ct12), sl12⟩)
    (c12 : PySem.W.codeIn K cd12 "_law_left" = true)
    (k12 : PySem.W.keepIn K (.ref f12) = true)
    (a13 : PySem.W.nsIn K mainGlobals "_law_kind" = some (some (.ref f13)))
    (l13 : K.lookup f13 = some ⟨oc13, od13, .func (PySem.W.fnOf "_law_kind" "_law_kind" (defArgs d13) (defBody d13) (defScope d13) .none kV13 dc13 pm13 an13 cd13 ct13), sl13⟩)
    (c13 : PySem.W.codeIn K cd13 "_law_kind" = true)
    (k13 : PySem.W.keepIn K (.ref f13) = true)
    (a14 : PySem.W.nsIn K mainGlobals "law" = some (some (.ref f14)))
    (l14 : K.lookup f14 = some ⟨oc14, od14, .func (PySem.W.fnOf "law" "law" (defArgs d14) (defBody d14) (defScope d14) .none kV14 dc14 pm14 an14 cd14 ct14), sl14⟩)
    (c14 : PySem.W.codeIn K cd14 "law" = true)
    (k14 : PySem.W.keepIn K (.ref f14) = true)
    (z_abs : PySem.W.nsIn K mainGlobals "abs" = some none)
    (z_dict : PySem.W.nsIn K mainGlobals "dict" = some none)
    (z_int : PySem.W.nsIn K mainGlobals "int" = some none)
    (z_len : PySem.W.nsIn K mainGlobals "len" = some none)
    (z_list : PySem.W.nsIn K mainGlobals "list" = some none)
    (z_range : PySem.W.nsIn K mainGlobals "range" = some none)
    (z_set : PySem.W.nsIn K mainGlobals "set" = some none)
    (z_sorted : PySem.W.nsIn K mainGlobals "sorted" = some none)
    (z_tuple : PySem.W.nsIn K mainGlobals "tuple" = some none)
    : ∃ fd : FuncData, (∀ (s : Shared) (v : Value), BindsTo s fd ⟨[v], []⟩ [("script", v)]) ∧ ∀ base : Heap, K.In base → base.Ns mainGlobals mg → FnOk P w K mg base (L2.CX P w) (60 + 2) fa fd ["script"] (spL K) := by
  have e := hfa.symm.trans (PySem.W.mg_of X G a14)
  cases e
  have F0 := fun_mk (st := d0) l0 c0 k0
  have b0 := F0.binds (ps := ps0) fun _ _ _ _ _ _ us hl => match us, hl with | [_], _ => rfl
  have F1 := fun_mk (st := d1) l1 c1 k1
  have b1 := F1.binds (ps := ps1) fun _ _ _ _ _ _ us hl => match us, hl with | [_, _, _], _ => rfl
  have F2 := fun_mk (st := d2) l2 c2 k2
  have b2 := F2.binds (ps := ps2) fun _ _ _ _ _ _ us hl => match us, hl with | [_, _, _], _ => rfl
  have F3 := fun_mk (st := d3) l3 c3 k3
  have b3 := F3.binds (ps := ps3) fun _ _ _ _ _ _ us hl => match us, hl with | [_, _, _, _], _ => rfl
  have F4 := fun_mk (st := d4) l4 c4 k4
  have b4 := F4.binds (ps := ps4) fun _ _ _ _ _ _ us hl => match us, hl with | [_, _], _ => rfl
  have F5 := fun_mk (st := d5) l5 c5 k5
  have b5 := F5.binds (ps := ps5) fun _ _ _ _ _ _ us hl => match us, hl with | [_, _, _], _ => rfl
  have F6 := fun_mk (st := d6) l6 c6 k6
  have b6 := F6.binds (ps := ps6) fun _ _ _ _ _ _ us hl => match us, hl with | [_, _], _ => rfl
  have F7 := fun_mk (st := d7) l7 c7 k7
  have b7 := F7.binds (ps := ps7) fun _ _ _ _ _ _ us hl => match us, hl with | [_, _, _], _ => rfl
  have F8 := fun_mk (st := d8) l8 c8 k8
  have b8 := F8.binds (ps := ps8) fun _ _ _ _ _ _ us hl => match us, hl with | [_], _ => rfl
  have F9 := fun_mk (st := d9) l9 c9 k9
  have b9 := F9.binds (ps := ps9) fun _ _ _ _ _ _ us hl => match us, hl with | [_, _], _ => rfl
  have F10 := fun_mk (st := d10) l10 c10 k10
  have b10 := F10.binds (ps := ps10) fun _ _ _ _ _ _ us hl => match us, hl with | [_, _], _ => rfl
  have F11 := fun_mk (st := d11) l11 c11 k11
  have b11 := F11.binds (ps := ps11) fun _ _ _ _ _ _ us hl => match us, hl with | [_, _], _ => rfl
  have F12 := fun_mk (st := d12) l12 c12 k12
  have b12 := F12.binds (ps := ps12) fun _ _ _ _ _ _ us hl => match us, hl with | [_], _ => rfl
  have F13 := fun_mk (st := d13) l13 c13 k13
  have b13 := F13.binds (ps := ps13) fun _ _ _ _ _ _ us hl => match us, hl with | [_, _], _ => rfl
  have F14 := fun_mk (st := d14) l14 c14 k14
  have b14 := F14.binds (ps := ps14) fun _ _ _ _ _ _ us hl => match us, hl with | [_], _ => rfl
  have T : Tx (fun _ => .none) P w K mg (fun k => match k with | 0 => f0 | 1 => f1 | 2 => f2 | 3 => f3 | 4 => f4 | 5 => f5 | 6 => f6 | 7 => f7 | 8 => f8 | 9 => f9 | 10 => f10 | 11 => f11 | 12 => f12 | 13 => f13 | 14 => fa | _ => 0) (fun k => match k with | 0 => PySem.W.fnOf "order_of" "order_of" (defArgs d0) (defBody d0) (defScope d0) .none kV0 dc0 pm0 an0 cd0 ct0 | 1 => PySem.W.fnOf "behind_first" "behind_first" (defArgs d1) (defBody d1) (defScope d1) .none kV1 dc1 pm1 an1 cd1 ct1 | 2 => PySem.W.fnOf "apart_by" "apart_by" (defArgs d2) (defBody d2) (defScope d2) .none kV2 dc2 pm2 an2 cd2 ct2 | 3 => PySem.W.fnOf "apart_up_to" "apart_up_to" (defArgs d3) (defBody d3) (defScope d3) .none kV3 dc3 pm3 an3 cd3 ct3 | 4 => PySem.W.fnOf "pieces_up_to" "pieces_up_to" (defArgs d4) (defBody d4) (defScope d4) .none kV4 dc4 pm4 an4 cd4 ct4 | 5 => PySem.W.fnOf "gone_on" "gone_on" (defArgs d5) (defBody d5) (defScope d5) .none kV5 dc5 pm5 an5 cd5 ct5 | 6 => PySem.W.fnOf "kinds_of" "kinds_of" (defArgs d6) (defBody d6) (defScope d6) .none kV6 dc6 pm6 an6 cd6 ct6 | 7 => PySem.W.fnOf "least_same" "least_same" (defArgs d7) (defBody d7) (defScope d7) .none kV7 dc7 pm7 an7 cd7 ct7 | 8 => PySem.W.fnOf "_law_draws" "_law_draws" (defArgs d8) (defBody d8) (defScope d8) .none kV8 dc8 pm8 an8 cd8 ct8 | 9 => PySem.W.fnOf "_law_next" "_law_next" (defArgs d9) (defBody d9) (defScope d9) .none kV9 dc9 pm9 an9 cd9 ct9 | 10 => PySem.W.fnOf "_law_pick" "_law_pick" (defArgs d10) (defBody d10) (defScope d10) .none kV10 dc10 pm10 an10 cd10 ct10 | 11 => PySem.W.fnOf "_law_words" "_law_words" (defArgs d11) (defBody d11) (defScope d11) .none kV11 dc11 pm11 an11 cd11 ct11 | 12 => PySem.W.fnOf "_law_left" "_law_left" (defArgs d12) (defBody d12) (defScope d12) .none kV12 dc12 pm12 an12 cd12 ct12 | 13 => PySem.W.fnOf "_law_kind" "_law_kind" (defArgs d13) (defBody d13) (defScope d13) .none kV13 dc13 pm13 an13 cd13 ct13 | 14 => PySem.W.fnOf "law" "law" (defArgs d14) (defBody d14) (defScope d14) .none kV14 dc14 pm14 an14 cd14 ct14 | _ => PySem.W.fnOf "law" "law" (defArgs d14) (defBody d14) (defScope d14) .none kV14 dc14 pm14 an14 cd14 ct14) :=
    { n_abs := PySem.W.mg_none_of X G z_abs,
      n_dict := PySem.W.mg_none_of X G z_dict,
      n_int := PySem.W.mg_none_of X G z_int,
      n_len := PySem.W.mg_none_of X G z_len,
      n_list := PySem.W.mg_none_of X G z_list,
      n_range := PySem.W.mg_none_of X G z_range,
      n_set := PySem.W.mg_none_of X G z_set,
      n_sorted := PySem.W.mg_none_of X G z_sorted,
      n_tuple := PySem.W.mg_none_of X G z_tuple,
      f0 := F0,
      b0 := b0,
      g0 := PySem.W.mg_of X G a0,
      f1 := F1,
      b1 := b1,
      g1 := PySem.W.mg_of X G a1,
      f2 := F2,
      b2 := b2,
      g2 := PySem.W.mg_of X G a2,
      f3 := F3,
      b3 := b3,
      g3 := PySem.W.mg_of X G a3,
      f4 := F4,
      b4 := b4,
      g4 := PySem.W.mg_of X G a4,
      f5 := F5,
      b5 := b5,
      g5 := PySem.W.mg_of X G a5,
      f6 := F6,
      b6 := b6,
      g6 := PySem.W.mg_of X G a6,
      f7 := F7,
      b7 := b7,
      g7 := PySem.W.mg_of X G a7,
      f8 := F8,
      b8 := b8,
      g8 := PySem.W.mg_of X G a8,
      f9 := F9,
      b9 := b9,
      g9 := PySem.W.mg_of X G a9,
      f10 := F10,
      b10 := b10,
      g10 := PySem.W.mg_of X G a10,
      f11 := F11,
      b11 := b11,
      g11 := PySem.W.mg_of X G a11,
      f12 := F12,
      b12 := b12,
      g12 := PySem.W.mg_of X G a12,
      f13 := F13,
      b13 := b13,
      g13 := PySem.W.mg_of X G a13,
      f14 := F14,
      b14 := b14,
      g14 := PySem.W.mg_of X G a14 }
  exact ⟨_, fun s v => .of_eq rfl, fun base _ _ => (oks T 60).o14.imp fun vs H Q E ⟨a, ns, e, hS, hl, q⟩ => by
    subst e
    obtain ⟨_, m⟩ := hM ns hl
    exact sp_lawQ hS q m⟩
end K68
namespace K68
theorem main : Main := main'
end K68
open PySem PySem.W PyProof.Rows
set_option maxHeartbeats 0 in
theorem PySem.Challenge.cw_starless_k68_whole_kinds_of_words_holds : PySem.Challenge.rw_starless_k68_whole_kinds_of_words.Holds := by
  w_on; o_law; k_head; (case hw => w_witness2)
  k_fill
  refine L2.walk_of (l := PySem.Challenge.rw_starless_k68_whole_kinds_of_words) (n := 63) (k := 60 + 2) (x := "script") (CX := fun w => L2.CX PySem.Challenge.rw_starless_k68_whole_kinds_of_words.prog w) (sp := fun w => DL.spL _) rfl (by decide) rfl ⟨rfl, by decide, by decide⟩ (fun w h Y => PySem.W.kIn_of Y) ?F (fun _ _ a ns hl _ hS => ⟨a, ns, rfl, hS, hl, fun _ => rfl⟩) (fun _ _ _ _ _ h => let ⟨_, _, _, _, _, _, _, _, _, _, _, _, z⟩ := h; z)
  case F =>
    intro w mg fa h KX G hmg
    refine' K68.all_mk K68.main KX G hmg ?a0 ?l0 ?c0 ?k0 ?a1 ?l1 ?c1 ?k1 ?a2 ?l2 ?c2 ?k2 ?a3 ?l3 ?c3 ?k3 ?a4 ?l4 ?c4 ?k4 ?a5 ?l5 ?c5 ?k5 ?a6 ?l6 ?c6 ?k6 ?a7 ?l7 ?c7 ?k7 ?a8 ?l8 ?c8 ?k8 ?a9 ?l9 ?c9 ?k9 ?a10 ?l10 ?c10 ?k10 ?a11 ?l11 ?c11 ?k11 ?a12 ?l12 ?c12 ?k12 ?a13 ?l13 ?c13 ?k13 ?a14 ?l14 ?c14 ?k14 ?z_abs ?z_dict ?z_int ?z_len ?z_list ?z_range ?z_set ?z_sorted ?z_tuple
    (case a0 => k_is)
    (case l0 => k_is)
    (case c0 => k_is)
    (case k0 => k_is)
    (case a1 => k_is)
    (case l1 => k_is)
    (case c1 => k_is)
    (case k1 => k_is)
    (case a2 => k_is)
    (case l2 => k_is)
    (case c2 => k_is)
    (case k2 => k_is)
    (case a3 => k_is)
    (case l3 => k_is)
    (case c3 => k_is)
    (case k3 => k_is)
    (case a4 => k_is)
    (case l4 => k_is)
    (case c4 => k_is)
    (case k4 => k_is)
    (case a5 => k_is)
    (case l5 => k_is)
    (case c5 => k_is)
    (case k5 => k_is)
    (case a6 => k_is)
    (case l6 => k_is)
    (case c6 => k_is)
    (case k6 => k_is)
    (case a7 => k_is)
    (case l7 => k_is)
    (case c7 => k_is)
    (case k7 => k_is)
    (case a8 => k_is)
    (case l8 => k_is)
    (case c8 => k_is)
    (case k8 => k_is)
    (case a9 => k_is)
    (case l9 => k_is)
    (case c9 => k_is)
    (case k9 => k_is)
    (case a10 => k_is)
    (case l10 => k_is)
    (case c10 => k_is)
    (case k10 => k_is)
    (case a11 => k_is)
    (case l11 => k_is)
    (case c11 => k_is)
    (case k11 => k_is)
    (case a12 => k_is)
    (case l12 => k_is)
    (case c12 => k_is)
    (case k12 => k_is)
    (case a13 => k_is)
    (case l13 => k_is)
    (case c13 => k_is)
    (case k13 => k_is)
    (case a14 => k_is)
    (case l14 => k_is)
    (case c14 => k_is)
    (case k14 => k_is)
    (case z_abs => k_is)
    (case z_dict => k_is)
    (case z_int => k_is)
    (case z_len => k_is)
    (case z_list => k_is)
    (case z_range => k_is)
    (case z_set => k_is)
    (case z_sorted => k_is)
    (case z_tuple => k_is)
