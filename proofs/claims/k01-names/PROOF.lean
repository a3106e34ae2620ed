import PyProof.Rows.All
import Wide.All
import OpenK.AllK
import Wide.FinOn
import PyProof.EqAt
import PyProof.EqKinds
import PyProof.TupleCall
import HandS.List
import HandS.Text
import HandS.ForMost
import HandS.Wide
import HandS.TupAny
import HandS.Exc
import HandS.ExcOwn
import HandS.Flow
import HandS.RaiseMore
import HandS.IsInst
import HandS.ClsMeth
import HandS.HeadWalk
import HandS.Walk
import HandS.Small
import HandS.Defaults
import HandS.Ends
import HandS.HeadNt
import HandS.HeadEnd
import HandS.Head2
import HandS.EndBits
import KE.KStateDown
import Lean
import HandS.Base
import HandS.Call
import HandS.More
import HandS.Words
import HandS.WordsExc
import HandS.Head0
import HandS.Head1
import HandS.HeadHook1
import HandS.HeadHook2
import PySem.Challenge.RW_rivalspots_k01_names
set_option Elab.async false
set_option linter.all false
set_option maxRecDepth 100000
/-! FwA: data, cells, the small language and its evaluation. -/
namespace FW
open PySem
abbrev Key := Sum Int Str
/-- pure data -/
inductive P where
  | non | bl (b : Bool) | int (i : Int) | str (s : Str)
  | tup (l : List P) | lst (l : List P) | dct (l : List (Key × P)) | dcT (l : List (List Key × P)) | obj (c : Nat) (l : List (Nat × P)) | cls (c : Nat) | scr (l : List P)
instance : Inhabited P := ⟨.non⟩
/-- a cell may be changed, is locked, is frozen -/
inductive Mo where
  | mu | lk | fz
structure Cl where
  mo : Mo
  ob : P
abbrev Cells := List Cl
inductive D where
  | p (x : P) | c (n : Nat)
abbrev Env := List (Option D)
/-- an evaluation's end -/
inductive R (α : Type) where
  | ok (a : α) (C : Cells)
  | ex (c : Nat) (fs : List (Nat × P)) (C : Cells)
  | stuck
def R.bnd {α β : Type} (r : R α) (k : α → Cells → R β) : R β := match r with
  | .ok a C => k a C
  | .ex c fs C => .ex c fs C
  | .stuck => .stuck
@[simp] theorem R.bnd_ok {α β : Type} (a : α) (C : Cells) (k : α → Cells → R β) : R.bnd (.ok a C) k = k a C := rfl
@[simp] theorem R.bnd_ex {α β : Type} (c : Nat) (fs : List (Nat × P)) (C : Cells) (k : α → Cells → R β) : R.bnd (.ex c fs C) k = .ex c fs C := rfl
@[simp] theorem R.bnd_stuck {α β : Type} (k : α → Cells → R β) : R.bnd (.stuck : R α) k = .stuck := rfl
/-- nothing may be raised here -/
def noX {α : Type} : R α → R α
  | .ex _ _ _ => .stuck
  | r => r
def ofO {α : Type} (o : Option α) (C : Cells) : R α := match o with
  | some a => .ok a C
  | none => .stuck
@[simp] theorem ofO_some {α : Type} (a : α) (C : Cells) : ofO (some a) C = .ok a C := rfl
@[simp] theorem ofO_none {α : Type} (C : Cells) : ofO (none : Option α) C = .stuck := rfl
/-- what a value is, read through the cells -/
def view (C : Cells) : D → Option P
  | .p x => some x
  | .c n => (C[n]?).map (·.ob)
@[simp] theorem view_p (C : Cells) (x : P) : view C (.p x) = some x := rfl
/-- a value goes into a container: its cell is frozen -/
def fz1 (C : Cells) : D → R P
  | .p x => .ok x C
  | .c n => match C[n]? with
    | some ⟨.mu, o⟩ => .ok o (C.set n ⟨.fz, o⟩)
    | some ⟨.fz, o⟩ => .ok o C
    | _ => .stuck
@[simp] theorem fz1_p (C : Cells) (x : P) : fz1 C (.p x) = .ok x C := rfl
def fzs (C : Cells) : List D → R (List P)
  | [] => .ok [] C
  | d :: ds => (fz1 C d).bnd fun x C1 => (fzs C1 ds).bnd fun xs C2 => .ok (x :: xs) C2
/-- a new list, dict: kept as a cell or pure -/
def alloc (k : Bool) (x : P) (C : Cells) : R D := if k then .ok (.c C.length) (C ++ [⟨.mu, x⟩]) else .ok (.p x) C
@[simp] theorem alloc_f (x : P) (C : Cells) : alloc false x C = .ok (.p x) C := rfl
@[simp] theorem alloc_t (x : P) (C : Cells) : alloc true x C = .ok (.c C.length) (C ++ [⟨.mu, x⟩]) := rfl
/-- behind a call: what was made within goes, but for the result -/
def fin (k : Bool) (n0 : Nat) : R D → R D
  | .ok (.p x) C => .ok (.p x) (C.take n0)
  | .ok (.c m) C => if m < n0 then .ok (.c m) (C.take n0) else match C[m]? with
    | some ⟨.lk, _⟩ => .stuck
    | some ⟨mo, o⟩ => if k then .ok (.c n0) (C.take n0 ++ [⟨mo, o⟩]) else .ok (.p o) (C.take n0)
    | none => .stuck
  | .ex c fs C => .ex c fs (C.take n0)
  | .stuck => .stuck

/-! ### operations -/
abbrev big : Nat := 16777216
inductive Op where
  | add | sub | mul | fdiv | mod | pow | band | bor
inductive COp where
  | eq | ne | lt | le | gt | ge | inn | nin | isN | notN
def mulOk (i j : Int) : Bool := decide (i.natAbs < 2 ^ 64) || decide (j.natAbs < 2 ^ 64) || decide (i.natAbs.log2 + j.natAbs.log2 < 1000000)
def divOk (j : Int) : Bool := decide (0 < j) && decide (j.natAbs.log2 < 9000)
def binP : Op → P → P → Option P
  | .add, .int i, .int j => some (.int (i + j))
  | .add, .str s, .str t => if s.length + t.length ≤ big then some (.str (s ++ t)) else none
  | .add, .lst a, .lst b => if a.length + b.length ≤ big then some (.lst (a ++ b)) else none
  | .add, .tup a, .tup b => if a.length + b.length ≤ big then some (.tup (a ++ b)) else none
  | .sub, .int i, .int j => some (.int (i - j))
  | .mul, .int i, .int j => if mulOk i j then some (.int (i * j)) else none
  | .mul, .lst a, .int k => if 0 ≤ k ∧ k < 2 ^ 40 ∧ a.length * k.toNat ≤ big then some (.lst (List.replicate k.toNat a).flatten) else none
  | .fdiv, .int i, .int j => if divOk j then some (.int (i / j)) else none
  | .mod, .int i, .int j => if 0 < j then some (.int (i % j)) else none
  | .pow, .int i, .int j => if 0 ≤ j ∧ j ≤ 1000000 ∧ i.natAbs < 2 ^ 64 then some (.int (i ^ j.toNat)) else none
  | _, _, _ => none
def flatP : P → Bool
  | .non | .bl _ | .int _ | .str _ => true
  | _ => false
/-- == of scalars whose kinds tell them apart -/
def eqF : P → P → Option Bool
  | .non, .non => some true
  | .non, .int _ | .int _, .non | .non, .bl _ | .bl _, .non | .non, .str _ | .str _, .non => some false
  | .int i, .int j => some (i == j)
  | .bl i, .bl j => some (i == j)
  | .str i, .str j => some (i == j)
  | .int _, .str _ | .str _, .int _ | .bl _, .str _ | .str _, .bl _ => some false
  | _, _ => none
/-- data that == goes through, to a depth -/
def okEq : Nat → P → Bool
  | _, .non | _, .bl _ | _, .int _ => true
  | _, .str s => s.cps.all (· < 0x110000)
  | n + 1, .lst l | n + 1, .tup l => l.all (okEq n)
  | _, _ => false
def eqN : Nat → P → P → Bool
  | _, .non, .non => true
  | _, .bl a, .bl b => a == b
  | _, .bl a, .int j => (if a then 1 else 0) == j
  | _, .int i, .bl b => i == (if b then 1 else 0)
  | _, .int i, .int j => i == j
  | _, .str x, .str y => x == y
  | n + 1, .lst a, .lst b | n + 1, .tup a, .tup b => a.length == b.length && (a.zip b).all fun q => eqN n q.1 q.2
  | _, _, _ => false
def eqP (x y : P) : Option Bool := match eqF x y with
  | some b => some b
  | none => if okEq 8 x && okEq 8 y then some (eqN 8 x y) else none
/-- the flat in -/
def eqV : P → P → Bool
  | .non, .non => true
  | .bl a, .bl b => a == b
  | .bl a, .int b => (if a then 1 else 0) == b
  | .int a, .bl b => a == (if b then 1 else 0)
  | .int a, .int b => a == b
  | .str a, .str b => a == b
  | _, _ => false
def keyP : P → Option Key
  | .int i => some (.inl i)
  | .str s => some (.inr s)
  | _ => none
def keysP : List P → Option (List Key)
  | [] => some []
  | x :: xs => match keyP x, keysP xs with
    | some k, some ks => some (k :: ks)
    | _, _ => none
def pKey : Key → P
  | .inl i => .int i
  | .inr s => .str s
def hasK {κ : Type} [DecidableEq κ] (l : List (κ × P)) (k : κ) : Bool := (l.find? fun q => decide (q.1 = k)).isSome
def getK {κ : Type} [DecidableEq κ] (l : List (κ × P)) (k : κ) : Option P := (l.find? fun q => decide (q.1 = k)).map (·.2)
def putK {κ : Type} [DecidableEq κ] (l : List (κ × P)) (k : κ) (v : P) : List (κ × P) :=
  if (l.any fun q => decide (q.1 = k)) = true then l.map (fun q => if q.1 = k then (q.1, v) else q) else l ++ [(k, v)]
def inP (x : P) : P → Option Bool
  | .lst l | .tup l => if flatP x && l.all flatP then some (l.any fun y => eqV y x) else none
  | .str t => match x with
    | .str s => if s.length = 1 then some (decide (s.cps.getD 0 0 ∈ t.cps.toList)) else none
    | _ => none
  | .dct l => (keyP x).map fun k => hasK l k
  | .dcT l => match x with
    | .tup ks => (keysP ks).map fun k => hasK l k
    | _ => none
  | _ => none
def ltP : COp → P → P → Option Bool
  | .lt, .int i, .int j => some (decide (i < j))
  | .le, .int i, .int j => some (decide (i ≤ j))
  | .gt, .int i, .int j => some (decide (j < i))
  | .ge, .int i, .int j => some (decide (j ≤ i))
  | .lt, .str s, .str t => some (decide (s.cps.toList < t.cps.toList))
  | .le, .str s, .str t => some (!decide (t.cps.toList < s.cps.toList))
  | .gt, .str s, .str t => some (decide (t.cps.toList < s.cps.toList))
  | .ge, .str s, .str t => some (!decide (s.cps.toList < t.cps.toList))
  | _, _, _ => none
def cmpP : COp → P → P → Option Bool
  | .eq, x, y => eqP x y
  | .ne, x, y => (eqP x y).map (!·)
  | .inn, x, y => inP x y
  | .nin, x, y => (inP x y).map (!·)
  | .isN, .non, .non => some true
  | .isN, _, .non => some false
  | .notN, .non, .non => some false
  | .notN, _, .non => some true
  | o, x, y => ltP o x y
def truP : P → Option Bool
  | .non => some false
  | .bl b => some b
  | .int i => some (i != 0)
  | .str s => if s.length ≤ big then some (s.length != 0) else none
  | .lst l => some (!l.isEmpty)
  | .tup l => some (!l.isEmpty)
  | _ => none
def ixP : P → P → Option P
  | .lst l, .int i => L2.atI l i
  | .tup l, .int i => L2.atI l i
  | .str s, .int i => if s.length ≤ big then (L2.atI s.cps.toList i).map fun c => .str ⟨#[c]⟩ else none
  | .dct l, k => (keyP k).bind fun k => getK l k
  | .dcT l, .tup ks => (keysP ks).bind fun k => getK l k
  | _, _ => none
def slP (x : P) (lo hi : Option Int) : Option P := match x with
  | .lst l => some (.lst ((l.drop (HT.sIx l.length 0 lo)).take (HT.sIx l.length l.length hi - HT.sIx l.length 0 lo)))
  | .tup l => some (.tup ((l.drop (HT.sIx l.length 0 lo)).take (HT.sIx l.length l.length hi - HT.sIx l.length 0 lo)))
  | .str z => if z.length ≤ big then some (.str ⟨((z.cps.toList.drop (HT.sIx z.length 0 lo)).take (HT.sIx z.length z.length hi - HT.sIx z.length 0 lo)).toArray⟩) else none
  | _ => none
def lenP : P → Option Nat
  | .str s => if s.length ≤ big then some s.length else none
  | .lst l => some l.length
  | .tup l => some l.length
  | .scr l => some l.length
  | .dct l => some l.length
  | _ => none
def intsP : List P → Option (List Int)
  | [] => some []
  | .int i :: r => (intsP r).map (i :: ·)
  | _ => none
def strsP : List P → Option (List Str)
  | [] => some []
  | .str s :: r => (strsP r).map (s :: ·)
  | _ => none
def blsP : List P → Option (List Bool)
  | [] => some []
  | .bl b :: r => (blsP r).map (b :: ·)
  | _ => none
/-- classes that isinstance is asked about -/
inductive Ty where
  | non | bl | int | str | tup | lst | dct
  deriving DecidableEq
inductive Kd where
  | ty (t : Ty) | own (c : Nat)
def tyP : P → Option Ty
  | .non => some .non
  | .bl _ => some .bl
  | .int _ => some .int
  | .str _ => some .str
  | .tup _ => some .tup
  | .lst _ | .scr _ => some .lst
  | .dct _ => some .dct
  | _ => none
def isT (a b : Ty) : Bool := decide (a = b) || (decide (a = .bl) && decide (b = .int))
def isP (sub : Nat → Nat → Option Bool) (x : P) (k : Kd) : Option Bool := match k with
  | .ty t => (tyP x).map fun u => isT u t
  | .own d => match x with
    | .obj c _ => sub c d
    | _ => none
def isAny (sub : Nat → Nat → Option Bool) (x : P) : List Kd → Option Bool
  | [] => some false
  | k :: ks => match isP sub x k with
    | some true => some true
    | some false => isAny sub x ks
    | none => none
/-- built-in calls -/
inductive Bt where
  | len | int | str | bool | list | tuple | dict | sorted | min | max | sum | abs | any | all
/-- what an iteration gives -/
def itemsP : P → Option (List P)
  | .lst l | .tup l | .scr l => some l
  | .str s => some (s.cps.toList.map fun c => .str ⟨#[c]⟩)
  | .dct l => some (l.map fun q => pKey q.1)
  | .dcT l => some (l.map fun q => .tup (q.1.map pKey))
  | _ => none
def itemsL : P → Option (List P)
  | .lst l | .tup l | .scr l => some l
  | .str s => some (s.cps.toList.map fun c => .str ⟨#[c]⟩)
  | _ => none
/-- a built-in's value, and whether it is a new list (dict) -/
def btP1 : Bt → P → Option (P × Bool)
  | .len, x => (lenP x).map fun (n : Nat) => (P.int (n : Int), false)
  | .int, .int i => some (.int i, false)
  | .int, .bl b => some (.int (if b then 1 else 0), false)
  | .str, .str s => some (.str s, false)
  | .bool, .bl b => some (.bl b, false)
  | .bool, .int i => some (.bl (i != 0), false)
  | .list, .lst l => some (.lst l, true)
  | .list, .tup l => some (.lst l, true)
  | .tuple, .lst l => some (.tup l, false)
  | .tuple, .tup l => some (.tup l, false)
  | .abs, .int i => some (.int (if i < 0 then -i else i), false)
  | .sum, .lst l => (intsP l).map fun ns => (.int ns.sum, false)
  | .any, .lst l => (blsP l).map fun bs => (.bl (bs.any id), false)
  | .all, .lst l => (blsP l).map fun bs => (.bl (bs.all id), false)
  | _, _ => none
def btP2 : Bt → P → P → Option (P × Bool)
  | .min, .int i, .int j => some (.int (if j < i then j else i), false)
  | .max, .int i, .int j => some (.int (if j > i then j else i), false)
  | _, _, _ => none
def btR (k : Bool) (C : Cells) : Option (P × Bool) → R D
  | some (x, true) => alloc k x C
  | some (x, false) => .ok (.p x) C
  | none => .stuck
def btD (b : Bt) (k : Bool) (C : Cells) : List D → R D
  | [d] => btR k C ((view C d).bind (btP1 b))
  | [d, e] => btR k C ((view C d).bind fun x => (view C e).bind fun y => btP2 b x y)
  | _ => .stuck

/-! ### the language -/
inductive Tg where
  | nm (i : Nat)
  | tp (is : List Nat)
mutual
inductive Ex where
  | var (i : Nat)
  | cst (x : P)
  | bin (o : Op) (a b : Ex)
  | neg (a : Ex)
  | cmp (o : COp) (a b : Ex)
  | chn (o o' : COp) (a b c : Ex)
  | and (a b : Ex)
  | or (a b : Ex)
  | not (a : Ex)
  | ite (t : Tx) (a b : Ex)
  | tup (es : Exs)
  | lst (k : Bool) (es : Exs)
  | dct (k : Bool) (es : Exs)
  | idx (a i : Ex)
  | slc (k : Bool) (a lo hi : Ex)
  | rev (k : Bool) (a : Ex)
  | att (a : Ex) (f : Nat)
  | call (f : Nat) (k : Bool) (es : Exs)
  | meth (m : Nat) (k : Bool) (a : Ex) (es : Exs)
  | stat (c m : Nat) (k : Bool) (es : Exs)
  | make (c : Nat) (k : Bool) (es : Exs)
  | bt (b : Bt) (k : Bool) (es : Exs)
  | isi (a : Ex) (ks : List Kd)
  | comp (k : Bool) (own : List Nat) (tg : Tg) (it : Itx) (cs : Txs) (e : Ex)
  | upper (a : Ex)
  | join (a : Ex) (b : Ex)
inductive Exs where
  | nil
  | cons (e : Ex) (r : Exs)
inductive Tx where
  | ex (e : Ex)
  | and (a b : Tx)
  | or (a b : Tx)
  | not (a : Tx)
inductive Txs where
  | nil
  | cons (t : Tx) (r : Txs)
inductive Itx where
  | val (e : Ex)
  | rng1 (e : Ex)
  | rng2 (a b : Ex)
  | rng3 (a b c : Ex)
  | enum (e : Ex)
  | zip (a b : Ex)
  | items (e : Ex)
end
inductive Mc where
  | append | extend | insert | pop0 | popi | remove | reverse | clear
mutual
inductive St where
  | asg (i : Nat) (e : Ex)
  | asgT (is : List Nat) (e : Ex)
  | asgA (o : Ex) (f : Nat) (e : Ex)
  | asgI (o i e : Ex)
  | aug (i : Nat) (o : Op) (e : Ex)
  | mut (m : Mc) (o : Ex) (es : Exs)
  | expr (e : Ex)
  | ret (e : Ex)
  | retN
  | ife (t : Tx) (a b : Ss)
  | for (own : Tg) (it : Itx) (b : Ss)
  | whl (t : Tx) (b : Ss)
  | rais (c : Nat) (es : Exs)
  | pass | brk | cnt
inductive Ss where
  | nil
  | cons (s : St) (r : Ss)
end

/-! ### evaluation -/
/-- what a method name stands for in a class -/
inductive MK where
  | meth (f : Nat)
  | stat (f : Nat)
  | prop (f : Nat)
  | con (x : P)
/-- the program as seen from a body: calls, classes -/
structure Gm where
  call : Nat → List D → Cells → R D
  look : Nat → Nat → Option MK
  init : Nat → Option Nat
  sub : Nat → Nat → Option Bool
  exc : Nat → Option (Str × List Nat)
  word : Nat
  fuel : Nat
def bindT (tg : Tg) (x : P) (σ : Env) : Option Env := match tg with
  | .nm i => some (σ.set i (some (.p x)))
  | .tp is => match x with
    | .tup l => if l.length = is.length then some ((is.zip l).foldl (fun s q => s.set q.1 (some (.p q.2))) σ) else none
    | _ => none
def wipeE (σ : Env) : List Nat → Env
  | [] => σ
  | v :: vs => (wipeE σ vs).set v none
/-- what is walked is locked meanwhile -/
def lockL : List D → Cells → Cells × List Nat
  | [], C => (C, [])
  | .p _ :: r, C => lockL r C
  | .c n :: r, C => match C[n]? with
    | some ⟨.mu, o⟩ => ((lockL r (C.set n ⟨.lk, o⟩)).1, n :: (lockL r (C.set n ⟨.lk, o⟩)).2)
    | _ => lockL r C
def unlkL : List Nat → Cells → Cells
  | [], C => C
  | n :: r, C => unlkL r (match C[n]? with
    | some ⟨.lk, o⟩ => C.set n ⟨.mu, o⟩
    | _ => C)
@[simp] theorem lockL_nil (C : Cells) : lockL [] C = (C, []) := rfl
@[simp] theorem lockL_p (x : P) (r : List D) (C : Cells) : lockL (.p x :: r) C = lockL r C := rfl
@[simp] theorem unlkL_nil (C : Cells) : unlkL [] C = C := rfl
/-- the turns of a comprehension: the list so far stands in the cell n -/
def compL (n : Nat) (one : P → Cells → R (Option D)) : List P → Cells → R Unit
  | [], C => .ok () C
  | x :: xs, C => (one x C).bnd fun o C1 => match o with
    | none => compL n one xs C1
    | some d => (fz1 C1 d).bnd fun y C2 => match C2[n]? with
      | some ⟨.mu, .lst l⟩ => if l.length < big ∧ C2.length = n + 1 then compL n one xs (C2.set n ⟨.mu, .lst (l ++ [y])⟩) else .stuck
      | _ => .stuck
def rngL (i j k : Int) : List P := (List.range (if 0 < k then ((j - i + k - 1) / k).toNat else ((i - j - k - 1) / (-k)).toNat)).map fun (t : Nat) => P.int (i + t * k)
def rngU (i j : Int) : List P := (List.range (j - i).toNat).map fun (t : Nat) => P.int (i + t)
def ltB (i : Int) : Bool := decide (-(2 ^ 62) ≤ i) && decide (i < 2 ^ 62)
/-- a method's call, by the receiver's class -/
def methR (G : Gm) (k : Bool) (m : Nat) (d : D) (ds : List D) (C : Cells) : R D := match view C d with
  | some (.obj c fs) => match G.look c m, fs.lookup m with
    | some (.meth f), none => fin k C.length (G.call f (d :: ds) C)
    | _, _ => .stuck
  | _ => .stuck
/-- a slice's bound: left out, or an int -/
def isOff : Ex → Bool
  | .cst .non => true
  | _ => false
def intI : P → Option (Option Int)
  | .int i => some (some i)
  | _ => none
def slI (e : Ex) (x : P) : Option (Option Int) := if isOff e then some none else intI x
mutual
def eval (G : Gm) : Ex → Env → Cells → R D
  | .var i, σ, C => match σ[i]? with
    | some (some d) => .ok d C
    | _ => .stuck
  | .cst x, _, C => .ok (.p x) C
  | .bin o a b, σ, C => (eval G a σ C).bnd fun x C1 => (eval G b σ C1).bnd fun y C2 =>
    match view C2 x, view C2 y with
    | some x, some y => ofO ((binP o x y).map .p) C2
    | _, _ => .stuck
  | .neg a, σ, C => (eval G a σ C).bnd fun x C1 => match view C1 x with
    | some (.int i) => .ok (.p (.int (-i))) C1
    | _ => .stuck
  | .cmp o a b, σ, C => (eval G a σ C).bnd fun x C1 => (eval G b σ C1).bnd fun y C2 =>
    match view C2 x, view C2 y with
    | some x, some y => ofO ((cmpP o x y).map fun b => .p (.bl b)) C2
    | _, _ => .stuck
  | .chn o o' a b c, σ, C => (eval G a σ C).bnd fun x C1 => (eval G b σ C1).bnd fun y C2 =>
    match view C2 x, view C2 y with
    | some x, some y' => (ofO (cmpP o x y') C2).bnd fun t C3 => if t then (eval G c σ C3).bnd fun z C4 =>
        match view C4 y, view C4 z with
        | some y, some z => ofO ((cmpP o' y z).map fun b => .p (.bl b)) C4
        | _, _ => .stuck
      else .ok (.p (.bl false)) C3
    | _, _ => .stuck
  | .and a b, σ, C => (eval G a σ C).bnd fun x C1 => match x with
    | .p (.bl true) => eval G b σ C1
    | .p (.bl false) => .ok (.p (.bl false)) C1
    | _ => .stuck
  | .or a b, σ, C => (eval G a σ C).bnd fun x C1 => match x with
    | .p (.bl true) => .ok (.p (.bl true)) C1
    | .p (.bl false) => eval G b σ C1
    | _ => .stuck
  | .not a, σ, C => (eval G a σ C).bnd fun x C1 => match x with
    | .p (.bl b) => .ok (.p (.bl (!b))) C1
    | _ => .stuck
  | .ite t a b, σ, C => (evalT G t σ C).bnd fun k C1 => if k then eval G a σ C1 else eval G b σ C1
  | .tup es, σ, C => (evals G es σ C).bnd fun ds C1 => (fzs C1 ds).bnd fun xs C2 => if xs.length ≤ big then .ok (.p (.tup xs)) C2 else .stuck
  | .lst k es, σ, C => (evals G es σ C).bnd fun ds C1 => (fzs C1 ds).bnd fun xs C2 => if xs.length ≤ big then alloc k (.lst xs) C2 else .stuck
  | .dct _ _, _, _ => .stuck
  | .idx a i, σ, C => (eval G a σ C).bnd fun x C1 => (eval G i σ C1).bnd fun y C2 =>
    match view C2 x, view C2 y with
    | some x, some y => ofO ((ixP x y).map .p) C2
    | _, _ => .stuck
  | .slc k a lo hi, σ, C => (eval G a σ C).bnd fun x C1 => (eval G lo σ C1).bnd fun l C2 => (ofO ((view C2 l).bind (slI lo)) C2).bnd fun l C2 => (eval G hi σ C2).bnd fun h C3 => (ofO ((view C3 h).bind (slI hi)) C3).bnd fun h C3 =>
    match (view C3 x).bind fun x => slP x l h with
    | some (.lst r) => alloc k (.lst r) C3
    | some r => .ok (.p r) C3
    | none => .stuck
  | .rev k a, σ, C => (eval G a σ C).bnd fun x C1 => match view C1 x with
    | some (.lst l) => alloc k (.lst l.reverse) C1
    | some (.tup l) => .ok (.p (.tup l.reverse)) C1
    | _ => .stuck
  | .att a f, σ, C => (eval G a σ C).bnd fun d C1 => match view C1 d with
    | some (.obj c fs) => match G.look c f with
      | none => ofO ((fs.lookup f).map .p) C1
      | some (.prop g) => fin false C1.length (G.call g [d] C1)
      | _ => .stuck
    | _ => .stuck
  | .call f k es, σ, C => (evals G es σ C).bnd fun ds C1 => fin k C1.length (G.call f ds C1)
  | .meth m k a es, σ, C => (eval G a σ C).bnd fun d C1 => (evals G es σ C1).bnd fun ds C2 => methR G k m d ds C2
  | .stat c m k es, σ, C => (evals G es σ C).bnd fun ds C1 => match G.look c m with
    | some (.stat f) => fin k C1.length (G.call f ds C1)
    | _ => .stuck
  | .make c k es, σ, C => (evals G es σ C).bnd fun ds C1 => match G.init c with
    | some f => (G.call f (.c C1.length :: ds) (C1 ++ [⟨.mu, .obj c []⟩])).bnd fun r C2 => match r with
      | .p .non => fin k C1.length (.ok (.c C1.length) C2)
      | _ => .stuck
    | none => .stuck
  | .bt b k es, σ, C => (evals G es σ C).bnd fun ds C1 => btD b k C1 ds
  | .isi a ks, σ, C => (eval G a σ C).bnd fun d C1 => match view C1 d with
    | some x => ofO ((isAny G.sub x ks).map fun b => .p (.bl b)) C1
    | none => .stuck
  | .comp k own tg it cs e, σ, C => (evalI G it σ C).bnd fun q C0 => (fun C1 : Cells =>
      (compL C1.length (fun x C2 => noX (match bindT tg x (wipeE σ own) with
        | some σ1 => (evalC G cs σ1 C2).bnd fun b C3 => if b then (eval G e σ1 C3).bnd fun d C4 => .ok (some d) C4 else .ok none C3
        | none => .stuck)) q.1 (C1 ++ [⟨.mu, .lst []⟩])).bnd fun _ C2 => if C2.length = C1.length + 1 then fin k C1.length (.ok (.c C1.length) (unlkL (lockL q.2 C0).2 C2)) else .stuck) (lockL q.2 C0).1
  | .upper a, σ, C => (eval G a σ C).bnd fun d C1 => match view C1 d with
    | some (.str s) => if s.length ≤ 5592405 then .ok (.p (.str (Txt.upper s))) C1 else .stuck
    | _ => .stuck
  | .join _ _, _, _ => .stuck
def evals (G : Gm) : Exs → Env → Cells → R (List D)
  | .nil, _, C => .ok [] C
  | .cons e r, σ, C => (eval G e σ C).bnd fun d C1 => (evals G r σ C1).bnd fun ds C2 => .ok (d :: ds) C2
def evalT (G : Gm) : Tx → Env → Cells → R Bool
  | .ex e, σ, C => (eval G e σ C).bnd fun d C1 => ofO ((view C1 d).bind truP) C1
  | .and a b, σ, C => (evalT G a σ C).bnd fun k C1 => if k then evalT G b σ C1 else .ok false C1
  | .or a b, σ, C => (evalT G a σ C).bnd fun k C1 => if k then .ok true C1 else evalT G b σ C1
  | .not a, σ, C => (evalT G a σ C).bnd fun k C1 => .ok (!k) C1
def evalC (G : Gm) : Txs → Env → Cells → R Bool
  | .nil, _, C => .ok true C
  | .cons t r, σ, C => (evalT G t σ C).bnd fun k C1 => if k then evalC G r σ C1 else .ok false C1
def evalI (G : Gm) : Itx → Env → Cells → R (List P × List D)
  | .val e, σ, C => (eval G e σ C).bnd fun d C1 => ofO (((view C1 d).bind itemsL).map fun l => (l, [d])) C1
  | .rng1 a, σ, C => (eval G a σ C).bnd fun x C1 => match view C1 x with
    | some (.int j) => if ltB j then .ok (rngU 0 j, []) C1 else .stuck
    | _ => .stuck
  | .rng2 a b, σ, C => (eval G a σ C).bnd fun x C1 => (eval G b σ C1).bnd fun y C2 => match view C2 x, view C2 y with
    | some (.int i), some (.int j) => if ltB i && ltB j then .ok (rngU i j, []) C2 else .stuck
    | _, _ => .stuck
  | .rng3 _ _ _, _, _ => .stuck
  | .enum e, σ, C => (eval G e σ C).bnd fun d C1 => match view C1 d with
    | some (.lst l) => .ok (l.zipIdx.map fun q => .tup [.int q.2, q.1], [d]) C1
    | _ => .stuck
  | .zip a b, σ, C => (eval G a σ C).bnd fun x C1 => (eval G b σ C1).bnd fun y C2 => match view C2 x, view C2 y with
    | some (.lst l), some (.lst r) => .ok ((l.zip r).map fun q => .tup [q.1, q.2], [x, y]) C2
    | _, _ => .stuck
  | .items e, σ, C => (eval G e σ C).bnd fun d C1 => match view C1 d with
    | some (.dct l) => .ok (l.map fun q => .tup [pKey q.1, q.2], [d]) C1
    | _ => .stuck
end

/-! ### statements -/
inductive O where
  | nx (σ : Env) (C : Cells)
  | rt (d : D) (C : Cells)
  | bk (σ : Env) (C : Cells)
  | ct (σ : Env) (C : Cells)
  | ex (c : Nat) (fs : List (Nat × P)) (σ : Env) (C : Cells)
  | stuck
def O.ofR {α : Type} (r : R α) (σ : Env) (k : α → Cells → O) : O := match r with
  | .ok a C => k a C
  | .ex c fs C => .ex c fs σ C
  | .stuck => .stuck
@[simp] theorem O.ofR_ok {α : Type} (a : α) (C : Cells) (σ : Env) (k : α → Cells → O) : O.ofR (.ok a C) σ k = k a C := rfl
@[simp] theorem O.ofR_ex {α : Type} (c : Nat) (fs : List (Nat × P)) (C : Cells) (σ : Env) (k : α → Cells → O) : O.ofR (.ex c fs C : R α) σ k = .ex c fs σ C := rfl
@[simp] theorem O.ofR_stuck {α : Type} (σ : Env) (k : α → Cells → O) : O.ofR (.stuck : R α) σ k = .stuck := rfl
def O.seq (o : O) (k : Env → Cells → O) : O := match o with
  | .nx σ C => k σ C
  | o => o
@[simp] theorem O.seq_nx (σ : Env) (C : Cells) (k : Env → Cells → O) : O.seq (.nx σ C) k = k σ C := rfl
@[simp] theorem O.seq_rt (d : D) (C : Cells) (k : Env → Cells → O) : O.seq (.rt d C) k = .rt d C := rfl
@[simp] theorem O.seq_bk (σ : Env) (C : Cells) (k : Env → Cells → O) : O.seq (.bk σ C) k = .bk σ C := rfl
@[simp] theorem O.seq_ct (σ : Env) (C : Cells) (k : Env → Cells → O) : O.seq (.ct σ C) k = .ct σ C := rfl
@[simp] theorem O.seq_ex (c : Nat) (fs : List (Nat × P)) (σ : Env) (C : Cells) (k : Env → Cells → O) : O.seq (.ex c fs σ C) k = .ex c fs σ C := rfl
@[simp] theorem O.seq_stuck (k : Env → Cells → O) : O.seq .stuck k = .stuck := rfl
/-- the turns of a for -/
def forL (tg : Tg) (body : Env → Cells → O) : List P → Env → Cells → O
  | [], σ, C => .nx σ C
  | x :: xs, σ, C => match bindT tg x σ with
    | none => .stuck
    | some σ1 => match body σ1 C with
      | .nx σ2 C2 => forL tg body xs σ2 C2
      | .ct σ2 C2 => forL tg body xs σ2 C2
      | .bk σ2 C2 => .nx σ2 C2
      | o => o
def O.unlk (ns : List Nat) : O → O
  | .nx σ C => .nx σ (unlkL ns C)
  | .rt d C => .rt d (unlkL ns C)
  | .bk σ C => .bk σ (unlkL ns C)
  | .ct σ C => .ct σ (unlkL ns C)
  | .ex c fs σ C => .ex c fs σ (unlkL ns C)
  | .stuck => .stuck
@[simp] theorem O.unlk_nil (o : O) : O.unlk [] o = o := by cases o <;> rfl
def whlL (test : Env → Cells → R Bool) (body : Env → Cells → O) : Nat → Env → Cells → O
  | 0, _, _ => .stuck
  | n + 1, σ, C => O.ofR (test σ C) σ fun b C1 => if b then match body σ C1 with
      | .nx σ2 C2 => whlL test body n σ2 C2
      | .ct σ2 C2 => whlL test body n σ2 C2
      | .bk σ2 C2 => .nx σ2 C2
      | o => o
    else .nx σ C1
def setC (C : Cells) (n : Nat) (x : P) : Option Cells := match C[n]? with
  | some ⟨.mu, _⟩ => some (C.set n ⟨.mu, x⟩)
  | _ => none
def putFd (f : Nat) (v : P) : List (Nat × P) → List (Nat × P)
  | [] => [(f, v)]
  | (g, x) :: r => if g = f then (g, v) :: r else (g, x) :: putFd f v r
/-- o[i] = x within a cell -/
def setIx (o i x : P) : Option P := match o, i with
  | .lst l, .int k => (L2.ixN l.length k).map fun j => .lst (l.set j x)
  | .dct l, k => (keyP k).bind fun k => if l.length < big then some (.dct (putK l k x)) else none
  | _, _ => none
def mutP : Mc → List P → List P → Option (List P)
  | .append, l, [x] => if l.length < big then some (l ++ [x]) else none
  | .reverse, l, [] => some l.reverse
  | .clear, _, [] => some []
  | _, _, _ => none
def augP : Op → Option P → Option P → Option P
  | .add, some (.int x), some (.int y) => some (.int (x + y))
  | .sub, some (.int x), some (.int y) => some (.int (x - y))
  | .add, some (.str x), some (.str y) => if x.length + y.length ≤ big then some (.str (x ++ y)) else none
  | _, _, _ => none
/-- a cell gets a new content -/
def putCell (C : Cells) (a : D) (f : P → Option P) (σ : Env) : O := match a with
  | .c n => match C[n]? with
    | some ⟨.mu, o⟩ => match f o with
      | some o' => .nx σ (C.set n ⟨.mu, o'⟩)
      | none => .stuck
    | _ => .stuck
  | .p _ => .stuck
def mutF (m : Mc) (xs : List P) : P → Option P
  | .lst l => (mutP m l xs).map .lst
  | _ => none
def fldF (G : Gm) (f : Nat) (x : P) : P → Option P
  | .obj c fs => match G.look c f with
    | none => if fs.length < 1000 then some (.obj c (putFd f x fs)) else none
    | some _ => none
  | _ => none
def lstP : Option P → Option Unit
  | some (.lst _) => some ()
  | _ => none
mutual
def exec (G : Gm) : St → Env → Cells → O
  | .asg i e, σ, C => O.ofR (eval G e σ C) σ fun d C1 => .nx (σ.set i (some d)) C1
  | .asgT is e, σ, C => O.ofR (eval G e σ C) σ fun d C1 => match view C1 d with
    | some x => match bindT (.tp is) x σ with
      | some σ1 => .nx σ1 C1
      | none => .stuck
    | none => .stuck
  | .asgA o f e, σ, C => O.ofR (eval G e σ C) σ fun d C1 => O.ofR (eval G o σ C1) σ fun a C2 => O.ofR (fz1 C2 d) σ fun x C3 => putCell C3 a (fldF G f x) σ
  | .asgI o i e, σ, C => O.ofR (eval G e σ C) σ fun d C1 => O.ofR (eval G o σ C1) σ fun a C2 => O.ofR (eval G i σ C2) σ fun j C3 => O.ofR (ofO (view C3 j) C3) σ fun j C3 => O.ofR (fz1 C3 d) σ fun x C4 => putCell C4 a (fun o => setIx o j x) σ
  | .aug i o e, σ, C => match σ[i]? with
    | some (some d) => O.ofR (eval G e σ C) σ fun y C1 => match augP o (view C1 d) (view C1 y) with
      | some z => .nx (σ.set i (some (.p z))) C1
      | none => .stuck
    | _ => .stuck
  | .mut m o es, σ, C => O.ofR (eval G o σ C) σ fun a C1 => O.ofR (ofO (lstP (view C1 a)) C1) σ fun _ C1 => O.ofR (evals G es σ C1) σ fun ds C2 => O.ofR (fzs C2 ds) σ fun xs C3 => putCell C3 a (mutF m xs) σ
  | .expr e, σ, C => O.ofR (eval G e σ C) σ fun _ C1 => .nx σ C1
  | .ret e, σ, C => O.ofR (eval G e σ C) σ fun d C1 => .rt d C1
  | .retN, _, C => .rt (.p .non) C
  | .ife t a b, σ, C => O.ofR (evalT G t σ C) σ fun k C1 => if k then execs G a σ C1 else execs G b σ C1
  | .for tg it b, σ, C => O.ofR (evalI G it σ C) σ fun q C0 => (forL tg (execs G b) q.1 σ (lockL q.2 C0).1).unlk (lockL q.2 C0).2
  | .whl t b, σ, C => whlL (evalT G t) (execs G b) G.fuel σ C
  | .rais c es, σ, C => O.ofR (evals G es σ C) σ fun ds C1 => O.ofR (fzs C1 ds) σ fun xs C2 => match G.exc c with
    | some (w, fs) => if fs.length = xs.length then .ex c ((G.word, .str w) :: fs.zip xs) σ C2 else .stuck
    | none => .stuck
  | .pass, σ, C => .nx σ C
  | .brk, σ, C => .bk σ C
  | .cnt, σ, C => .ct σ C
def execs (G : Gm) : Ss → Env → Cells → O
  | .nil, σ, C => .nx σ C
  | .cons s r, σ, C => (exec G s σ C).seq fun σ1 C1 => execs G r σ1 C1
end
/-- a def -/
structure FnI where
  np : Nat
  ns : Nat
  body : Ss
def startE (f : FnI) (ds : List D) : Env := ds.map some ++ List.replicate (f.ns - ds.length) none
def O.toR : O → R D
  | .nx _ C => .ok (.p .non) C
  | .rt d C => .ok d C
  | .ex c fs _ C => .ex c fs C
  | _ => .stuck
/-- the program -/
structure Prg where
  fns : List FnI
  look : Nat → Nat → Option MK
  init : Nat → Option Nat
  sub : Nat → Nat → Option Bool
  exc : Nat → Option (Str × List Nat)
  word : Nat
  fuel : Nat
def Prg.gm (Pg : Prg) (call : Nat → List D → Cells → R D) : Gm := ⟨call, Pg.look, Pg.init, Pg.sub, Pg.exc, Pg.word, Pg.fuel⟩
def callN (Pg : Prg) : Nat → Nat → List D → Cells → R D
  | 0, _, _, _ => .stuck
  | n + 1, f, ds, C => match Pg.fns[f]? with
    | some i => if ds.length = i.np then (execs (Pg.gm (callN Pg n)) i.body (startE i ds) C).toR else .stuck
    | none => .stuck
end FW

set_option maxRecDepth 100000
/-! FwB: how data stand in the heap; what is wanted behind an evaluation. -/
namespace FW
open PySem PySem.Spec PyProof.Rows L2
/-- names: where the classes stand, what the fields are called -/
structure Nm where
  K : PySem.W.Frag
  ca : Nat → Addr
  nm : Nat → Str
mutual
def RelP (N : Nm) (F : Hp) : P → V → Prop
  | .non, v => v = .non
  | .bl b, v => v = .bl b
  | .int i, v => v = .int i
  | .str s, v => v = .str s
  | .tup l, v => ∃ a vs, v = .ref a ∧ F a = some (.tup vs) ∧ RelPs N F l vs
  | .lst l, v => ∃ a vs, v = .ref a ∧ F a = some (.lst vs) ∧ RelPs N F l vs
  | .scr l, v => ∃ a vs, v = .ref a ∧ SqL N.K F a vs ∧ RelPs N F l vs
  | .dct l, v => ∃ a kvs, v = .ref a ∧ F a = some (.dK kvs) ∧ RelKs N F l kvs
  | .dcT l, v => ∃ a kvs, v = .ref a ∧ F a = some (.dT kvs) ∧ RelTs N F l kvs
  | .obj c l, v => ∃ a dx fs, v = .ref a ∧ F a = some (.ins (N.ca c) dx fs) ∧ RelFs N F l fs
  | .cls c, v => v = .ref (N.ca c)
def RelPs (N : Nm) (F : Hp) : List P → List V → Prop
  | [], [] => True
  | p :: ps, v :: vs => RelP N F p v ∧ RelPs N F ps vs
  | _, _ => False
def RelKs (N : Nm) (F : Hp) : List (Key × P) → List (Key × V) → Prop
  | [], [] => True
  | (k, p) :: ps, (x, v) :: vs => k = x ∧ RelP N F p v ∧ RelKs N F ps vs
  | _, _ => False
def RelTs (N : Nm) (F : Hp) : List (List Key × P) → List (List Key × V) → Prop
  | [], [] => True
  | (k, p) :: ps, (x, v) :: vs => k = x ∧ RelP N F p v ∧ RelTs N F ps vs
  | _, _ => False
def RelFs (N : Nm) (F : Hp) : List (Nat × P) → List (Str × V) → Prop
  | [], [] => True
  | (f, p) :: ps, (x, v) :: vs => N.nm f = x ∧ RelP N F p v ∧ RelFs N F ps vs
  | _, _ => False
end
/-- a cell's content at its object -/
def RelO (N : Nm) (F : Hp) : P → HO → Prop
  | .lst l, .lst vs => RelPs N F l vs
  | .dct l, .dK kvs => RelKs N F l kvs
  | .dcT l, .dT kvs => RelTs N F l kvs
  | .obj c l, .ins C dx fs => C = N.ca c ∧ RelFs N F l fs
  | _, _ => False
/-- what stands frozen, where the cells stand, what is locked, what cells keep their content -/
structure Wd where
  F : Hp
  io : List Addr
  L : Addr → Option (Obj × HO)
  k : Nat → Option P
def isD : HO → Bool
  | .dK _ | .dT _ => true
  | _ => false
def RelD (N : Nm) (w : Wd) : D → V → Prop
  | .p x, v => RelP N w.F x v
  | .c n, v => ∃ a, w.io[n]? = some a ∧ v = .ref a
def RelDs (N : Nm) (w : Wd) : List D → List V → Prop
  | [], [] => True
  | d :: ds, v :: vs => RelD N w d v ∧ RelDs N w ds vs
  | _, _ => False
/-- how u at a is to be found -/
def At (w : Wd) (H : Hp) (a : Addr) (u : HO) : Prop := (w.L a = none ∧ H a = some u) ∨ ∃ o, w.L a = some (o, u)
def CellOk (N : Nm) (w : Wd) (H : Hp) (a : Addr) (cl : Cl) : Prop := match cl.mo with
  | .mu => w.F a = none ∧ w.L a = none ∧ ∃ u, H a = some u ∧ RelO N w.F cl.ob u
  | .lk => w.F a = none ∧ ∃ u, At w H a u ∧ RelO N w.F cl.ob u
  | .fz => ∃ u, w.F a = some u ∧ RelO N w.F cl.ob u
structure Rel (N : Nm) (w : Wd) (C : Cells) (H : Hp) : Prop where
  sub : ∀ a u, w.F a = some u → At w H a u
  len : w.io.length = C.length
  nd : w.io.Nodup
  cell : ∀ (n : Nat) (a : Addr) (cl : Cl), w.io[n]? = some a → C[n]? = some cl → CellOk N w H a cl
  lk : ∀ a o u, w.L a = some (o, u) → isD u = true ∧ H a = some (.frz o u)
  kp : ∀ (n : Nat) (o : P), w.k n = some o → ∃ mo, C[n]? = some ⟨mo, o⟩ ∧ mo ≠ .mu
def RelE (N : Nm) (w : Wd) (τ : Env) (σ : L2.St) : Prop := τ.length = σ.length ∧ ∀ (i : Nat) (d : D), τ[i]? = some (some d) → ∃ v, σ[i]? = some (some v) ∧ RelD N w d v
structure Ext (w w' : Wd) : Prop where
  F : ∀ a u, w.F a = some u → w'.F a = some u
  io : ∃ t, w'.io = w.io ++ t
  L : ∀ a o, w.L a = some o → w'.L a = some o
  k : ∀ n o, w.k n = some o → w'.k n = some o
theorem Ext.refl (w : Wd) : Ext w w := ⟨fun _ _ h => h, ⟨[], (List.append_nil _).symm⟩, fun _ _ h => h, fun _ _ h => h⟩
theorem Ext.trans {a b c : Wd} (h : Ext a b) (k : Ext b c) : Ext a c := by
  obtain ⟨t, e⟩ := h.io
  obtain ⟨u, f⟩ := k.io
  exact ⟨fun x y z => k.F x y (h.F x y z), ⟨t ++ u, by rw [f, e, List.append_assoc]⟩, fun x y z => k.L x y (h.L x y z), fun x y z => k.k x y (h.k x y z)⟩
theorem rd_mono {F G : Hp} (h : ∀ a u, F a = some u → G a = some u) {a : Addr} {u : HO} (r : Rd F a u) : Rd G a u := by
  rcases r with r | ⟨o, r⟩
  · exact .inl (h _ _ r)
  · exact .inr ⟨o, h _ _ r⟩
theorem sqL_mono {K : PySem.W.Frag} {F G : Hp} (h : ∀ a u, F a = some u → G a = some u) {a : Addr} {xs : List V} (r : SqL K F a xs) : SqL K G a xs := by
  rcases r with r | r
  · exact .inl (rd_mono h r)
  · exact .inr r
theorem sqT_mono {K : PySem.W.Frag} {F G : Hp} (h : ∀ a u, F a = some u → G a = some u) {a : Addr} {xs : List V} (r : SqT K F a xs) : SqT K G a xs := by
  rcases r with r | r
  · exact .inl (rd_mono h r)
  · exact .inr r
section
variable {N : Nm} {F G : Hp} (h : ∀ a u, F a = some u → G a = some u)
include h
mutual
theorem RelP.mono : ∀ (p : P) (v : V), RelP N F p v → RelP N G p v
  | .non, _, e => e
  | .bl _, _, e => e
  | .int _, _, e => e
  | .str _, _, e => e
  | .cls _, _, e => e
  | .tup l, _, ⟨a, vs, e, s, r⟩ => ⟨a, vs, e, h _ _ s, RelPs.mono l vs r⟩
  | .lst l, _, ⟨a, vs, e, s, r⟩ => ⟨a, vs, e, h _ _ s, RelPs.mono l vs r⟩
  | .scr l, _, ⟨a, vs, e, s, r⟩ => ⟨a, vs, e, sqL_mono h s, RelPs.mono l vs r⟩
  | .dct l, _, ⟨a, vs, e, s, r⟩ => ⟨a, vs, e, h _ _ s, RelKs.mono l vs r⟩
  | .dcT l, _, ⟨a, vs, e, s, r⟩ => ⟨a, vs, e, h _ _ s, RelTs.mono l vs r⟩
  | .obj _ l, _, ⟨a, dx, fs, e, s, r⟩ => ⟨a, dx, fs, e, h _ _ s, RelFs.mono l fs r⟩
theorem RelPs.mono : ∀ (l : List P) (vs : List V), RelPs N F l vs → RelPs N G l vs
  | [], [], _ => trivial
  | p :: ps, v :: vs, ⟨a, b⟩ => ⟨RelP.mono p v a, RelPs.mono ps vs b⟩
theorem RelKs.mono : ∀ (l : List (Key × P)) (vs : List (Key × V)), RelKs N F l vs → RelKs N G l vs
  | [], [], _ => trivial
  | (_, p) :: ps, (_, v) :: vs, ⟨e, a, b⟩ => ⟨e, RelP.mono p v a, RelKs.mono ps vs b⟩
theorem RelTs.mono : ∀ (l : List (List Key × P)) (vs : List (List Key × V)), RelTs N F l vs → RelTs N G l vs
  | [], [], _ => trivial
  | (_, p) :: ps, (_, v) :: vs, ⟨e, a, b⟩ => ⟨e, RelP.mono p v a, RelTs.mono ps vs b⟩
theorem RelFs.mono : ∀ (l : List (Nat × P)) (vs : List (Str × V)), RelFs N F l vs → RelFs N G l vs
  | [], [], _ => trivial
  | (_, p) :: ps, (_, v) :: vs, ⟨e, a, b⟩ => ⟨e, RelP.mono p v a, RelFs.mono ps vs b⟩
end
theorem RelO.mono {o : P} {u : HO} (r : RelO N F o u) : RelO N G o u := by
  cases o <;> cases u <;> first
    | exact (show False from r).elim
    | exact RelPs.mono h _ _ (show RelPs N F _ _ from r)
    | exact RelKs.mono h _ _ (show RelKs N F _ _ from r)
    | exact RelTs.mono h _ _ (show RelTs N F _ _ from r)
    | exact ⟨(show _ ∧ RelFs N F _ _ from r).1, RelFs.mono h _ _ (show _ ∧ RelFs N F _ _ from r).2⟩
end
section
variable {N : Nm} {w w' : Wd} (h : Ext w w')
include h
theorem RelD.mono {d : D} {v : V} (r : RelD N w d v) : RelD N w' d v := by
  cases d with
  | p x => exact RelP.mono h.F x v r
  | c n =>
    obtain ⟨a, e, rfl⟩ := r
    obtain ⟨t, q⟩ := h.io
    exact ⟨a, by rw [q, List.getElem?_append_left (List.getElem?_eq_some_iff.mp e).1]; exact e, rfl⟩
theorem RelDs.mono : ∀ {ds : List D} {vs : List V}, RelDs N w ds vs → RelDs N w' ds vs
  | [], [], _ => trivial
  | _ :: _, _ :: _, ⟨a, b⟩ => ⟨RelD.mono h a, RelDs.mono b⟩
theorem RelE.mono {τ : Env} {σ : L2.St} (r : RelE N w τ σ) : RelE N w' τ σ := ⟨r.1, fun i d e => let ⟨v, q, z⟩ := r.2 i d e; ⟨v, q, z.mono h⟩⟩
end
/-- an exception of the own class c with these fields -/
def RelX (N : Nm) (w : Wd) (c : Nat) (fs : List (Nat × P)) (cls : Value) (dd : Option Addr) (H : Hp) : Prop :=
  cls = .ref (N.ca c) ∧ ∃ d vfs, dd = some d ∧ H d = some (.xd vfs) ∧ RelFs N w.F fs vfs
/-- what is wanted behind an evaluation that ends with r -/
def Post (N : Nm) (w : Wd) (σ : L2.St) (W : WX) {α β : Type} (Rl : Wd → α → β → Prop) (r : R α) (Q : β → Hp → Prop) : Prop := match r with
  | .ok a C => ∀ w' H' b, Ext w w' → Rel N w' C H' → Rl w' a b → Q b H'
  | .ex c fs C => ∀ w' H' cls dd, Ext w w' → Rel N w' C H' → RelX N w' c fs cls dd H' → W cls dd σ H'
  | .stuck => False
section
variable {N : Nm} {w w' : Wd} {σ : L2.St} {W : WX} {α β γ δ : Type} {Rl : Wd → α → β → Prop} {Rk : Wd → γ → δ → Prop} {r : R α} {Q : β → Hp → Prop}
theorem Post.ext (h : Post N w σ W Rl r Q) (e : Ext w w') : Post N w' σ W Rl r Q := by
  cases r with
  | ok a C => exact fun w2 H2 b e2 => h w2 H2 b (e.trans e2)
  | ex c fs C => exact fun w2 H2 b d e2 => h w2 H2 b d (e.trans e2)
  | stuck => exact h
theorem Post.seq {k : α → Cells → R γ} {Q' : δ → Hp → Prop} (h : Post N w σ W Rk (r.bnd k) Q') {Q : β → Hp → Prop}
    (f : ∀ w1 C1 a b H1, Ext w w1 → Rel N w1 C1 H1 → Rl w1 a b → Post N w1 σ W Rk (k a C1) Q' → Q b H1) : Post N w σ W Rl r Q := by
  cases r with
  | ok a C => exact fun w1 H1 b e R r => f w1 C a b H1 e R r (Post.ext h e)
  | ex c fs C => exact h
  | stuck => exact h
theorem Post.done {C : Cells} {H : Hp} {a : α} {b : β} (h : Post N w σ W Rl (.ok a C) Q) (R : Rel N w C H) (r : Rl w a b) : Q b H := h w H b (Ext.refl w) R r
end
end FW

set_option maxRecDepth 100000
/-! FwB2: how the relation goes on. -/
namespace FW
open PySem PySem.Spec PyProof.Rows L2
/-- what may be read of a value, the outermost thing off H -/
def RelT (N : Nm) (w : Wd) (H : Hp) : P → V → Prop
  | .lst l, v => ∃ a vs, v = .ref a ∧ H a = some (.lst vs) ∧ RelPs N w.F l vs
  | .scr l, v => ∃ a vs, v = .ref a ∧ SqL N.K H a vs ∧ RelPs N w.F l vs
  | .tup l, v => ∃ a vs, v = .ref a ∧ w.F a = some (.tup vs) ∧ RelPs N w.F l vs
  | .dct l, v => ∃ a kvs, v = .ref a ∧ Rd H a (.dK kvs) ∧ RelKs N w.F l kvs
  | .dcT l, v => ∃ a kvs, v = .ref a ∧ Rd H a (.dT kvs) ∧ RelTs N w.F l kvs
  | .obj c l, v => ∃ a dx fs, v = .ref a ∧ H a = some (.ins (N.ca c) dx fs) ∧ RelFs N w.F l fs
  | .non, v => v = .non
  | .bl b, v => v = .bl b
  | .int i, v => v = .int i
  | .str s, v => v = .str s
  | .cls c, v => v = .ref (N.ca c)
section
variable {N : Nm} {w : Wd} {C : Cells} {H : Hp}
theorem Rel.rd (R : Rel N w C H) {a : Addr} {u : HO} (h : At w H a u) : Rd H a u := by
  rcases h with ⟨_, h⟩ | ⟨o, h⟩
  · exact .inl h
  · exact .inr ⟨o, (R.lk a o u h).2⟩
theorem Rel.nd_at (R : Rel N w C H) {a : Addr} {u : HO} (h : At w H a u) (hd : isD u = false) : w.L a = none ∧ H a = some u := by
  rcases h with h | ⟨o, h⟩
  · exact h
  · have := (R.lk a o u h).1
    rw [hd] at this
    cases this
theorem Rel.rdF (R : Rel N w C H) {a : Addr} {u : HO} (h : Rd w.F a u) : Rd H a u := by
  rcases h with h | ⟨o, h⟩
  · exact R.rd (R.sub a u h)
  · exact .inr ⟨o, (R.nd_at (R.sub a _ h) rfl).2⟩
theorem Rel.sqL (R : Rel N w C H) {a : Addr} {xs : List V} (h : SqL N.K w.F a xs) : SqL N.K H a xs := by
  rcases h with h | h
  · exact .inl (R.rdF h)
  · exact .inr h
theorem Rel.sqT (R : Rel N w C H) {a : Addr} {xs : List V} (h : SqT N.K w.F a xs) : SqT N.K H a xs := by
  rcases h with h | h
  · exact .inl (R.rdF h)
  · exact .inr h
theorem Rel.tupH (R : Rel N w C H) {a : Addr} {vs : List V} (h : w.F a = some (.tup vs)) : H a = some (.tup vs) := (R.nd_at (R.sub a _ h) rfl).2
theorem Rel.top (R : Rel N w C H) {x : P} {v : V} (h : RelP N w.F x v) : RelT N w H x v := by
  cases x with
  | lst l => obtain ⟨a, vs, e, s, r⟩ := h; exact ⟨a, vs, e, (R.nd_at (R.sub a _ s) rfl).2, r⟩
  | scr l => obtain ⟨a, vs, e, s, r⟩ := h; exact ⟨a, vs, e, R.sqL s, r⟩
  | dct l => obtain ⟨a, vs, e, s, r⟩ := h; exact ⟨a, vs, e, R.rdF (.inl s), r⟩
  | dcT l => obtain ⟨a, vs, e, s, r⟩ := h; exact ⟨a, vs, e, R.rdF (.inl s), r⟩
  | obj c l => obtain ⟨a, dx, vs, e, s, r⟩ := h; exact ⟨a, dx, vs, e, (R.nd_at (R.sub a _ s) rfl).2, r⟩
  | _ => exact h
theorem Rel.topO (R : Rel N w C H) {o : P} {a : Addr} {u : HO} (h : At w H a u) (r : RelO N w.F o u) : RelT N w H o (.ref a) := by
  cases o <;> cases u <;> first
    | exact (show False from r).elim
    | exact ⟨a, _, rfl, (R.nd_at h rfl).2, r⟩
    | exact ⟨a, _, rfl, R.rd h, r⟩
    | (obtain ⟨e, r⟩ := (show _ ∧ RelFs N w.F _ _ from r)
       exact ⟨a, _, _, rfl, by rw [← e]; exact (R.nd_at h rfl).2, r⟩)
theorem Rel.cellAt (R : Rel N w C H) {n : Nat} {a : Addr} {mo : Mo} {o : P} (ha : w.io[n]? = some a) (hc : C[n]? = some ⟨mo, o⟩) : ∃ u, At w H a u ∧ RelO N w.F o u := by
  have c := R.cell n a _ ha hc
  cases mo with
  | mu => obtain ⟨_, l, u, h, r⟩ := c; exact ⟨u, .inl ⟨l, h⟩, r⟩
  | lk => obtain ⟨_, u, h, r⟩ := c; exact ⟨u, h, r⟩
  | fz => obtain ⟨u, h, r⟩ := c; exact ⟨u, R.sub a u h, r⟩
theorem Rel.view (R : Rel N w C H) {d : D} {v : V} {x : P} (r : RelD N w d v) (e : view C d = some x) : RelT N w H x v := by
  cases d with
  | p y =>
    have e : y = x := Option.some.inj e
    subst e
    exact R.top r
  | c n =>
    obtain ⟨a, ha, rfl⟩ := r
    cases hc : C[n]? with
    | none => simp [FW.view, hc] at e
    | some cl =>
      obtain ⟨mo, o⟩ := cl
      have e : o = x := by simpa [FW.view, hc] using e
      subst e
      obtain ⟨u, h, q⟩ := R.cellAt ha hc
      exact R.topO h q
theorem isSome_at (R : Rel N w C H) {a : Addr} {u : HO} (h : At w H a u) : ∃ x, H a = some x := by
  rcases h with ⟨_, h⟩ | ⟨o, h⟩
  · exact ⟨_, h⟩
  · exact ⟨_, (R.lk a o u h).2⟩
theorem Rel.fresh (R : Rel N w C H) {p : Addr} (hp : H p = none) : w.F p = none ∧ w.L p = none ∧ p ∉ w.io := by
  refine ⟨?_, ?_, fun hm => ?_⟩
  · cases e : w.F p with
    | none => rfl
    | some u =>
      obtain ⟨x, h⟩ := isSome_at R (R.sub p u e)
      rw [hp] at h; cases h
  · cases e : w.L p with
    | none => rfl
    | some q =>
      obtain ⟨o, u⟩ := q
      have := (R.lk p o u e).2
      rw [hp] at this; cases this
  · obtain ⟨n, hn, e⟩ := List.mem_iff_getElem.mp hm
    have ha : w.io[n]? = some p := by rw [List.getElem?_eq_getElem hn, e]
    have hl : n < C.length := by rw [← R.len]; exact hn
    obtain ⟨u, h, _⟩ := R.cellAt (mo := (C[n]).mo) (o := (C[n]).ob) ha (by rw [List.getElem?_eq_getElem hl])
    obtain ⟨x, h⟩ := isSome_at R h
    rw [hp] at h; cases h
theorem updF_mono {F : Hp} {p : Addr} {u : HO} (h : F p = none) : ∀ a x, F a = some x → upd F p u a = some x := fun a x e => by
  rw [upd_ne (ne_of_none e h)]; exact e
/-- a new thing, frozen from the start -/
theorem Rel.newF (R : Rel N w C H) {p : Addr} (u : HO) (hp : H p = none) : Rel N { w with F := upd w.F p u } C (upd H p u) ∧ Ext w { w with F := upd w.F p u } := by
  obtain ⟨hF, hL, hio⟩ := R.fresh hp
  have mo := updF_mono (u := u) hF
  have at_ : ∀ {a : Addr} {x : HO}, At w H a x → a ≠ p → At { w with F := upd w.F p u } (upd H p u) a x := fun {a x} h ne => by
    rcases h with ⟨l, h⟩ | h
    · exact .inl ⟨l, by rw [upd_ne ne]; exact h⟩
    · exact .inr h
  have ne_at : ∀ {a : Addr} {x : HO}, At w H a x → a ≠ p := fun {a x} h e => by
    obtain ⟨y, q⟩ := isSome_at R h
    rw [e, hp] at q; cases q
  refine ⟨⟨fun a x e => ?_, R.len, R.nd, fun n a cl ha hc => ?_, fun a o x e => ?_, R.kp⟩, ⟨mo, ⟨[], (List.append_nil _).symm⟩, fun _ _ h => h, fun _ _ h => h⟩⟩
  · by_cases q : a = p
    · subst q
      have e : upd w.F a u a = some x := e
      rw [upd_same] at e
      cases e
      exact .inl ⟨hL, upd_same⟩
    · have e : upd w.F p u a = some x := e
      rw [upd_ne q] at e
      exact at_ (R.sub a x e) q
  · have ne : a ≠ p := fun z => hio (z ▸ List.mem_of_getElem? ha)
    have c := R.cell n a cl ha hc
    obtain ⟨mo', o⟩ := cl
    cases mo' with
    | mu =>
      obtain ⟨c1, c2, x, c3, c4⟩ := c
      exact ⟨(upd_ne ne).trans c1, c2, x, (upd_ne ne).trans c3, c4.mono mo⟩
    | lk =>
      obtain ⟨c1, x, c3, c4⟩ := c
      exact ⟨(upd_ne ne).trans c1, x, at_ c3 ne, c4.mono mo⟩
    | fz =>
      obtain ⟨x, c3, c4⟩ := c
      exact ⟨x, mo _ _ c3, c4.mono mo⟩
  · have h := R.lk a o x e
    have ne : a ≠ p := fun z => by rw [z, hp] at h; cases h.2
    exact ⟨h.1, (upd_ne ne).trans h.2⟩
/-- a thing of another, untracked kind has come -/
theorem Rel.junk (R : Rel N w C H) {p : Addr} (u : HO) (hp : H p = none) : Rel N w C (upd H p u) := by
  obtain ⟨hF, hL, hio⟩ := R.fresh hp
  have at_ : ∀ {a : Addr} {x : HO}, At w H a x → At w (upd H p u) a x := fun {a x} h => by
    rcases h with ⟨l, h⟩ | h
    · exact .inl ⟨l, by rw [upd_ne (ne_of_none h hp)]; exact h⟩
    · exact .inr h
  refine ⟨fun a x e => at_ (R.sub a x e), R.len, R.nd, fun n a cl ha hc => ?_, fun a o x e => ?_, R.kp⟩
  · have c := R.cell n a cl ha hc
    obtain ⟨mo', o⟩ := cl
    cases mo' with
    | mu =>
      obtain ⟨c1, c2, x, c3, c4⟩ := c
      exact ⟨c1, c2, x, (upd_ne (ne_of_none c3 hp)).trans c3, c4⟩
    | lk =>
      obtain ⟨c1, x, c3, c4⟩ := c
      exact ⟨c1, x, at_ c3, c4⟩
    | fz => exact c
  · have h := R.lk a o x e
    exact ⟨h.1, (upd_ne (ne_of_none h.2 hp)).trans h.2⟩
theorem nodup_snoc {l : List Addr} {p : Addr} (h : l.Nodup) (n : p ∉ l) : (l ++ [p]).Nodup := by
  rw [List.nodup_append]
  exact ⟨h, by simp, fun a ha b hb e => by simp at hb; subst hb; subst e; exact n ha⟩
/-- a new cell -/
theorem Rel.newC (R : Rel N w C H) {p : Addr} {o : P} {u : HO} (hp : H p = none) (r : RelO N w.F o u) : Rel N { w with io := w.io ++ [p] } (C ++ [⟨.mu, o⟩]) (upd H p u) ∧ Ext w { w with io := w.io ++ [p] } := by
  obtain ⟨hF, hL, hio⟩ := R.fresh hp
  have J := R.junk u hp
  refine ⟨⟨J.sub, ?_, nodup_snoc R.nd hio, fun n a cl ha hc => ?_, J.lk, fun n x e => ?_⟩, ⟨fun _ _ h => h, ⟨[p], rfl⟩, fun _ _ h => h, fun _ _ h => h⟩⟩
  · show (w.io ++ [p]).length = (C ++ [_]).length
    simp [R.len]
  · have ha : (w.io ++ [p])[n]? = some a := ha
    by_cases hn : n < C.length
    · rw [List.getElem?_append_left hn] at hc
      rw [List.getElem?_append_left (by rw [R.len]; exact hn)] at ha
      exact J.cell n a cl ha hc
    · have hn : n = C.length := by
        have := (List.getElem?_eq_some_iff.mp hc).1
        simp at this; omega
      subst hn
      rw [List.getElem?_append_right (Nat.le_refl _)] at hc
      rw [List.getElem?_append_right (by rw [R.len]; exact Nat.le_refl _)] at ha
      simp at hc
      simp [R.len] at ha
      subst hc ha
      exact ⟨hF, hL, u, upd_same, r⟩
  · obtain ⟨mo, h1, h2⟩ := R.kp n x e
    exact ⟨mo, by rw [List.getElem?_append_left (List.getElem?_eq_some_iff.mp h1).1]; exact h1, h2⟩
theorem nd_ix {l : List Addr} (h : l.Nodup) {i j : Nat} {a : Addr} (hi : l[i]? = some a) (hj : l[j]? = some a) : i = j := by
  obtain ⟨h1, e1⟩ := List.getElem?_eq_some_iff.mp hi
  obtain ⟨h2, e2⟩ := List.getElem?_eq_some_iff.mp hj
  exact (List.getElem_inj h).mp (e1.trans e2.symm)
/-- a cell gets another content -/
theorem Rel.put (R : Rel N w C H) {n : Nat} {a : Addr} {o o' : P} {u : HO} (ha : w.io[n]? = some a) (hc : C[n]? = some ⟨.mu, o⟩) (r : RelO N w.F o' u) : Rel N w (C.set n ⟨.mu, o'⟩) (upd H a u) := by
  obtain ⟨hF, hL, u0, h0, _⟩ := R.cell n a _ ha hc
  have at_ : ∀ {b : Addr} {x : HO}, At w H b x → b ≠ a → At w (upd H a u) b x := fun {b x} h ne => by
    rcases h with ⟨l, h⟩ | h
    · exact .inl ⟨l, by rw [upd_ne ne]; exact h⟩
    · exact .inr h
  have neF : ∀ {b : Addr} {x : HO}, w.F b = some x → b ≠ a := fun {b x} e z => by rw [z, hF] at e; cases e
  refine ⟨fun b x e => at_ (R.sub b x e) (neF e), by simpa using R.len, R.nd, fun m b cl hb hm => ?_, fun b o1 x e => ?_, fun m x e => ?_⟩
  · by_cases q : m = n
    · subst q
      have hl := (List.getElem?_eq_some_iff.mp hc).1
      rw [List.getElem?_set_self hl] at hm
      cases hm
      rw [ha] at hb; cases hb
      exact ⟨hF, hL, u, upd_same, r⟩
    · rw [List.getElem?_set_ne (Ne.symm q)] at hm
      have ne : b ≠ a := fun z => q (nd_ix R.nd hb (by rw [z]; exact ha))
      have c := R.cell m b cl hb hm
      obtain ⟨mo', o2⟩ := cl
      cases mo' with
      | mu => obtain ⟨c1, c2, x, c3, c4⟩ := c; exact ⟨c1, c2, x, (upd_ne ne).trans c3, c4⟩
      | lk => obtain ⟨c1, x, c3, c4⟩ := c; exact ⟨c1, x, at_ c3 ne, c4⟩
      | fz => exact c
  · have h := R.lk b o1 x e
    have ne : b ≠ a := fun z => by rw [z, hL] at e; cases e
    exact ⟨h.1, (upd_ne ne).trans h.2⟩
  · obtain ⟨mo, h1, h2⟩ := R.kp m x e
    have ne : m ≠ n := fun z => by rw [z, hc] at h1; cases h1; exact h2 rfl
    exact ⟨mo, by rw [List.getElem?_set_ne (Ne.symm ne)]; exact h1, h2⟩
/-- a cell is frozen -/
theorem Rel.freeze (R : Rel N w C H) {n : Nat} {a : Addr} {o : P} (ha : w.io[n]? = some a) (hc : C[n]? = some ⟨.mu, o⟩) :
    ∃ u, RelO N w.F o u ∧ Rel N { w with F := upd w.F a u } (C.set n ⟨.fz, o⟩) H ∧ Ext w { w with F := upd w.F a u } := by
  obtain ⟨hF, hL, u, h0, r0⟩ := R.cell n a _ ha hc
  have mo := updF_mono (u := u) hF
  refine ⟨u, r0, ⟨fun b x e => ?_, by simpa using R.len, R.nd, fun m b cl hb hm => ?_, R.lk, fun m x e => ?_⟩, ⟨mo, ⟨[], (List.append_nil _).symm⟩, fun _ _ h => h, fun _ _ h => h⟩⟩
  · by_cases q : b = a
    · subst q
      have e : upd w.F b u b = some x := e
      rw [upd_same] at e; cases e
      exact .inl ⟨hL, h0⟩
    · have e : upd w.F a u b = some x := e
      rw [upd_ne q] at e
      exact R.sub b x e
  · by_cases q : m = n
    · subst q
      have hl := (List.getElem?_eq_some_iff.mp hc).1
      rw [List.getElem?_set_self hl] at hm
      cases hm
      rw [ha] at hb; cases hb
      exact ⟨u, upd_same, r0.mono mo⟩
    · rw [List.getElem?_set_ne (Ne.symm q)] at hm
      have ne : b ≠ a := fun z => q (nd_ix R.nd hb (by rw [z]; exact ha))
      have c := R.cell m b cl hb hm
      obtain ⟨mo', o2⟩ := cl
      cases mo' with
      | mu => obtain ⟨c1, c2, x, c3, c4⟩ := c; exact ⟨(upd_ne ne).trans c1, c2, x, c3, c4.mono mo⟩
      | lk => obtain ⟨c1, x, c3, c4⟩ := c; exact ⟨(upd_ne ne).trans c1, x, c3, c4.mono mo⟩
      | fz => obtain ⟨x, c3, c4⟩ := c; exact ⟨x, mo _ _ c3, c4.mono mo⟩
  · obtain ⟨mo1, h1, h2⟩ := R.kp m x e
    have ne : m ≠ n := fun z => by rw [z, hc] at h1; cases h1; exact h2 rfl
    exact ⟨mo1, by rw [List.getElem?_set_ne (Ne.symm ne)]; exact h1, h2⟩
/-- what was made since is forgotten -/
def Wd.cut (w : Wd) (n : Nat) : Wd := { w with io := w.io.take n, k := fun m => if m < n then w.k m else none }
theorem Rel.cut (R : Rel N w C H) (n : Nat) : Rel N (w.cut n) (C.take n) H := by
  refine ⟨R.sub, by show (w.io.take n).length = _; rw [List.length_take, List.length_take, R.len], R.nd.sublist (List.take_sublist _ _), fun m a cl ha hc => ?_, R.lk, fun m x e => ?_⟩
  · have ha : (w.io.take n)[m]? = some a := ha
    by_cases hm : m < n
    · rw [List.getElem?_take_of_lt hm] at ha hc
      exact R.cell m a cl ha hc
    · rw [List.getElem?_take_eq_none (Nat.le_of_not_lt hm)] at hc
      cases hc
  · have e : (if m < n then w.k m else none) = some x := e
    by_cases hm : m < n
    · rw [if_pos hm] at e
      obtain ⟨mo, h1, h2⟩ := R.kp m x e
      exact ⟨mo, by rw [List.getElem?_take_of_lt hm]; exact h1, h2⟩
    · rw [if_neg hm] at e; cases e
theorem Ext.cut {w w' : Wd} (e : Ext w w') {C : Cells} {H : Hp} (R : Rel N w C H) : Ext w (w'.cut C.length) := by
  obtain ⟨t, q⟩ := e.io
  refine ⟨e.F, ⟨[], ?_⟩, e.L, fun n o h => ?_⟩
  · show w'.io.take C.length = _
    rw [q, ← R.len, List.take_left', List.append_nil]
    rfl
  · show (if n < C.length then w'.k n else none) = some o
    obtain ⟨mo, h1, _⟩ := R.kp n o h
    rw [if_pos (List.getElem?_eq_some_iff.mp h1).1]
    exact e.k n o h
end
theorem RelPs.len {N : Nm} {F : Hp} : ∀ {l : List P} {vs : List V}, RelPs N F l vs → l.length = vs.length
  | [], [], _ => rfl
  | _ :: _, _ :: _, ⟨_, b⟩ => congrArg (· + 1) (RelPs.len b)
  | [], _ :: _, h => h.elim
  | _ :: _, [], h => h.elim
theorem RelPs.get {N : Nm} {F : Hp} : ∀ {l : List P} {vs : List V} {i : Nat} {x : P}, RelPs N F l vs → l[i]? = some x → ∃ v, vs[i]? = some v ∧ RelP N F x v
  | _ :: _, _ :: _, 0, x, ⟨a, _⟩, e => ⟨_, rfl, by have e : _ = x := Option.some.inj e; subst e; exact a⟩
  | _ :: _, _ :: _, i + 1, x, ⟨_, b⟩, e => RelPs.get (i := i) b e
  | [], _, i, x, _, e => by simp at e
  | _ :: _, [], _, _, h, _ => h.elim
theorem RelPs.append {N : Nm} {F : Hp} : ∀ {l r : List P} {vs us : List V}, RelPs N F l vs → RelPs N F r us → RelPs N F (l ++ r) (vs ++ us)
  | [], _, [], _, _, h => h
  | _ :: _, _, _ :: _, _, ⟨a, b⟩, h => ⟨a, RelPs.append b h⟩
  | [], _, _ :: _, _, h, _ => h.elim
  | _ :: _, _, [], _, h, _ => h.elim
theorem RelPs.take {N : Nm} {F : Hp} : ∀ {l : List P} {vs : List V} (n : Nat), RelPs N F l vs → RelPs N F (l.take n) (vs.take n)
  | _, _, 0, _ => trivial
  | [], [], _ + 1, _ => trivial
  | _ :: _, _ :: _, n + 1, ⟨a, b⟩ => ⟨a, RelPs.take n b⟩
  | [], _ :: _, _ + 1, h => h.elim
  | _ :: _, [], _ + 1, h => h.elim
theorem RelPs.drop {N : Nm} {F : Hp} : ∀ {l : List P} {vs : List V} (n : Nat), RelPs N F l vs → RelPs N F (l.drop n) (vs.drop n)
  | _, _, 0, h => h
  | [], [], _ + 1, _ => trivial
  | _ :: _, _ :: _, n + 1, ⟨_, b⟩ => RelPs.drop n b
  | [], _ :: _, _ + 1, h => h.elim
  | _ :: _, [], _ + 1, h => h.elim
theorem RelPs.set {N : Nm} {F : Hp} {x : P} {v : V} (h : RelP N F x v) : ∀ {l : List P} {vs : List V} (n : Nat), RelPs N F l vs → RelPs N F (l.set n x) (vs.set n v)
  | [], [], _, _ => trivial
  | _ :: _, _ :: _, 0, ⟨_, b⟩ => ⟨h, b⟩
  | _ :: _, _ :: _, n + 1, ⟨a, b⟩ => ⟨a, RelPs.set h n b⟩
  | [], _ :: _, _, h => h.elim
  | _ :: _, [], _, h => h.elim
theorem RelDs.len {N : Nm} {w : Wd} : ∀ {l : List D} {vs : List V}, RelDs N w l vs → l.length = vs.length
  | [], [], _ => rfl
  | _ :: _, _ :: _, ⟨_, b⟩ => congrArg (· + 1) (RelDs.len b)
  | [], _ :: _, h => h.elim
  | _ :: _, [], h => h.elim
end FW

set_option maxRecDepth 100000
set_option maxHeartbeats 2000000
/-! FwC1: operators by values. -/
namespace FW
open PySem PySem.Spec PyProof.Rows L2
theorem big_eq : (big : Nat) = sizeLine := by rw [sizeLine_eq]
section
variable {N : Nm} {w : Wd} {σ : L2.St} {W : WX} {C : Cells} {H : Hp} {Q : VK}
theorem fin_lst {l : List P} {vs : List V} (h : Post N w σ W (RelD N) (.ok (.p (.lst l)) C) Q) (R : Rel N w C H) (r : RelPs N w.F l vs) : ∀ p, H p = none → Q (.ref p) (upd H p (.lst vs)) := fun p hp => by
  obtain ⟨R', e⟩ := R.newF (.lst vs) hp
  exact h _ _ _ e R' ⟨p, vs, rfl, upd_same, RelPs.mono (updF_mono (R.fresh hp).1) _ _ r⟩
theorem fin_tup {l : List P} {vs : List V} (h : Post N w σ W (RelD N) (.ok (.p (.tup l)) C) Q) (R : Rel N w C H) (r : RelPs N w.F l vs) : ∀ p, H p = none → Q (.ref p) (upd H p (.tup vs)) := fun p hp => by
  obtain ⟨R', e⟩ := R.newF (.tup vs) hp
  exact h _ _ _ e R' ⟨p, vs, rfl, upd_same, RelPs.mono (updF_mono (R.fresh hp).1) _ _ r⟩
theorem fin_cell {o : P} {u : HO} (h : Post N w σ W (RelD N) (.ok (.c C.length) (C ++ [⟨.mu, o⟩])) Q) (R : Rel N w C H) (r : RelO N w.F o u) : ∀ p, H p = none → Q (.ref p) (upd H p u) := fun p hp => by
  obtain ⟨R', e⟩ := R.newC hp r
  exact h _ _ _ e R' ⟨p, by show (w.io ++ [p])[C.length]? = some p; rw [← R.len]; simp, rfl⟩
theorem fin_alloc {k : Bool} {l : List P} {vs : List V} (h : Post N w σ W (RelD N) (alloc k (.lst l) C) Q) (R : Rel N w C H) (r : RelPs N w.F l vs) : ∀ p, H p = none → Q (.ref p) (upd H p (.lst vs)) := by
  cases k with
  | false => exact fin_lst h R r
  | true => exact fin_cell (o := .lst l) (u := .lst vs) h R r
/-- two values and what is wanted of the operation's end -/
def rB (N : Nm) (f : P → P → Option P) : R2 := fun x y H Q => ∃ (w : Wd) (C : Cells) (d e : D) (σ : L2.St) (W : WX), Rel N w C H ∧ RelD N w d x ∧ RelD N w e y ∧
  Post N w σ W (RelD N) (match view C d, view C e with
    | some x, some y => ofO ((f x y).map .p) C
    | _, _ => .stuck) Q
theorem rB_open {f : P → P → Option P} {x y : V} (h : rB N f x y H Q) : ∃ (w : Wd) (C : Cells) (p q r : P) (σ : L2.St) (W : WX), Rel N w C H ∧ RelT N w H p x ∧ RelT N w H q y ∧ f p q = some r ∧ Post N w σ W (RelD N) (.ok (.p r) C) Q := by
  obtain ⟨w, C, d, e, σ, W, R, r1, r2, h⟩ := h
  cases e1 : view C d with
  | none => rw [e1] at h; exact h.elim
  | some p =>
    cases e2 : view C e with
    | none => rw [e1, e2] at h; exact h.elim
    | some q =>
      rw [e1, e2] at h
      cases e3 : f p q with
      | none =>
        have h : Post N w σ W (RelD N) (ofO ((f p q).map .p) C) Q := h
        rw [e3] at h; exact h.elim
      | some r =>
        have h : Post N w σ W (RelD N) (ofO ((f p q).map .p) C) Q := h
        rw [e3] at h
        exact ⟨w, C, p, q, r, σ, W, R, R.view r1 e1, R.view r2 e2, e3, h⟩
end
theorem mulOk_ok {i j : Int} (h : mulOk i j = true) : CMul i j ∨ CMulW i j := by
  unfold mulOk at h
  simp only [Bool.or_eq_true, decide_eq_true_eq] at h
  rcases h with (h | h) | h
  · exact .inl (.inl (by omega))
  · exact .inl (.inr (by omega))
  · exact .inr h
theorem divOk_ok {i j : Int} (h : divOk j = true) : CDivW i j := by
  unfold divOk at h
  simp only [Bool.and_eq_true, decide_eq_true_eq] at h
  exact h
def opOf : Operator → Option Op
  | .Add => some .add
  | .Sub => some .sub
  | .Mult => some .mul
  | .FloorDiv => some .fdiv
  | .Mod => some .mod
  | .Pow => some .pow
  | _ => none
theorem RelPs.repl {N : Nm} {F : Hp} {l : List P} {vs : List V} (h : RelPs N F l vs) : ∀ n : Nat, RelPs N F (List.replicate n l).flatten (List.replicate n vs).flatten
  | 0 => trivial
  | n + 1 => by
    rw [List.replicate_succ, List.replicate_succ, List.flatten_cons, List.flatten_cons]
    exact h.append (RelPs.repl h n)
theorem len_repl {α β : Type} {l : List α} {vs : List β} (h : l.length = vs.length) (k : Nat) : l.length * k = vs.length * k := by rw [h]
section
variable {X : Cx} {N : Nm}
theorem u_bin (hK : X.K = N.K) {op : Operator} {o : Op} (ho : opOf op = some o) : OpR X (binaryOp op) (rB N (binP o)) := by
  intro pins s σ H x y v u Q I rx ry h
  obtain ⟨w, C, p, q, r, σ', W, R, r1, r2, e, h⟩ := rB_open h
  cases op <;> simp only [opOf, Option.some.injEq, reduceCtorEq] at ho <;> subst ho
  · -- add
    cases p <;> cases q <;> simp only [binP, reduceCtorEq, Option.some.injEq] at e
    · obtain rfl := r1
      obtain rfl := r2
      subst e
      exact op_add pins s σ H _ _ v u Q I rx ry ⟨_, _, rfl, rfl, h.done R rfl⟩
    · obtain rfl := r1
      obtain rfl := r2
      split at e
      · rename_i hz
        cases e
        exact op_add_str pins s σ H _ _ v u Q I rx ry ⟨_, _, rfl, rfl, by rw [← big_eq]; exact hz, h.done R rfl⟩
      · cases e
    · obtain ⟨a, xs, rfl, ha, p1⟩ := r1
      obtain ⟨b, ys, rfl, hb, p2⟩ := r2
      split at e
      · rename_i hz
        cases e
        refine op_catA pins s σ H _ _ v u Q I rx ry ⟨a, b, xs, ys, rfl, rfl, SqT.of (R.tupH ha), SqT.of (R.tupH hb), by rw [← p1.len, ← p2.len, ← big_eq]; exact hz, fun e1 => ?_, fun _ e1 => ?_, fun _ _ => fin_tup h R (p1.append p2)⟩
        · subst e1
          have p3 := p1.append p2
          rw [List.nil_append] at p3
          exact h.done R ⟨b, ys, rfl, hb, p3⟩
        · subst e1
          have p3 := p1.append p2
          rw [List.append_nil] at p3
          exact h.done R ⟨a, xs, rfl, ha, p3⟩
      · cases e
    · obtain ⟨a, xs, rfl, ha, p1⟩ := r1
      obtain ⟨b, ys, rfl, hb, p2⟩ := r2
      split at e
      · rename_i hz
        cases e
        exact op_cat pins s σ H _ _ v u Q I rx ry ⟨a, b, xs, ys, rfl, rfl, ha, hb, by rw [← p1.len, ← p2.len, ← big_eq]; exact hz, fin_lst h R (p1.append p2)⟩
      · cases e
  · -- sub
    cases p <;> cases q <;> simp only [binP, reduceCtorEq, Option.some.injEq] at e
    obtain rfl := r1
    obtain rfl := r2
    subst e
    exact op_sub pins s σ H _ _ v u Q I rx ry ⟨_, _, rfl, rfl, h.done R rfl⟩
  · -- mul
    cases p <;> cases q <;> simp only [binP, reduceCtorEq, Option.some.injEq] at e
    · obtain rfl := r1
      obtain rfl := r2
      split at e
      · rename_i hz
        cases e
        rcases mulOk_ok hz with z | z
        · exact op_mul pins s σ H _ _ v u Q I rx ry ⟨_, _, rfl, rfl, z, h.done R rfl⟩
        · exact op_mulW pins s σ H _ _ v u Q I rx ry ⟨_, _, rfl, rfl, z, h.done R rfl⟩
      · cases e
    · obtain ⟨a, xs, rfl, ha, p1⟩ := r1
      obtain rfl := r2
      split at e
      · rename_i hz
        cases e
        exact op_rep pins s σ H _ _ v u Q I rx ry ⟨a, _, xs, rfl, rfl, ha, by omega, by omega, by rw [← p1.len, ← big_eq]; exact hz.2.2, fin_lst h R (p1.repl _)⟩
      · cases e
  · -- mod
    cases p <;> cases q <;> simp only [binP, reduceCtorEq, Option.some.injEq] at e
    obtain rfl := r1
    obtain rfl := r2
    split at e
    · cases e
      exact op_mod pins s σ H _ _ v u Q I rx ry ⟨_, _, rfl, rfl, by assumption, h.done R rfl⟩
    · cases e
  · -- pow
    cases p <;> cases q <;> simp only [binP, reduceCtorEq, Option.some.injEq] at e
    obtain rfl := r1
    obtain rfl := r2
    split at e
    · cases e
      exact op_pow pins s σ H _ _ v u Q I rx ry ⟨_, _, rfl, rfl, by assumption, h.done R rfl⟩
    · cases e
  · -- fdiv
    cases p <;> cases q <;> simp only [binP, reduceCtorEq, Option.some.injEq] at e
    obtain rfl := r1
    obtain rfl := r2
    split at e
    · cases e
      exact op_fdivW pins s σ H _ _ v u Q I rx ry ⟨_, _, rfl, rfl, divOk_ok (by assumption), h.done R rfl⟩
    · cases e
end

/-! ### comparisons -/
def cmpOf : CmpOp → Option COp
  | .Eq => some .eq
  | .NotEq => some .ne
  | .Lt => some .lt
  | .LtE => some .le
  | .Gt => some .gt
  | .GtE => some .ge
  | .In => some .inn
  | .NotIn => some .nin
  | .Is => some .isN
  | .IsNot => some .notN
/-- plain data of ==, from pure data -/
def toPy : Nat → P → PyData
  | _, .non => .none
  | _, .bl b => .bool b
  | _, .int i => .int i
  | _, .str s => .str s
  | n + 1, .lst l => .list (l.map (toPy n))
  | n + 1, .tup l => .tuple (l.map (toPy n))
  | _, _ => .dict []
theorem dpAll {K : PySem.W.Frag} {N : Nm} {F H : Hp} {n : Nat} (f : ∀ p v, okEq n p = true → RelP N F p v → Dp K H v (toPy n p)) : ∀ (l : List P) (vs : List V), l.all (okEq n) = true → RelPs N F l vs → DpAll K H vs (l.map (toPy n))
  | [], [], _, _ => .nil
  | p :: l, v :: vs, h, ⟨a, b⟩ => by
    rw [List.all_cons, Bool.and_eq_true] at h
    exact .cons (f p v h.1 a) (dpAll f l vs h.2 b)
  | [], _ :: _, _, h => h.elim
  | _ :: _, [], _, h => h.elim
theorem dp_of {N : Nm} {w : Wd} {C : Cells} {H : Hp} (R : Rel N w C H) : ∀ (n : Nat) (p : P) (v : V), okEq n p = true → RelT N w H p v → Dp N.K H v (toPy n p)
  | n, .non, v, h, r => by obtain rfl := r; cases n <;> exact .non
  | n, .bl b, v, h, r => by obtain rfl := r; cases n <;> exact .bl b
  | n, .int i, v, h, r => by obtain rfl := r; cases n <;> exact .int i
  | n, .str x, v, h, r => by obtain rfl := r; cases n <;> exact .str x
  | n + 1, .tup l, v, h, r => by
    obtain ⟨a, vs, rfl, ha, q⟩ := r
    exact .tup (.of (R.tupH ha)) (dpAll (fun p v h r => dp_of R n p v h (R.top r)) _ _ (show l.all (okEq n) = true from h) q)
  | n + 1, .lst l, v, h, r => by
    obtain ⟨a, vs, rfl, ha, q⟩ := r
    exact .lst (.of ha) (dpAll (fun p v h r => dp_of R n p v h (R.top r)) _ _ (show l.all (okEq n) = true from h) q)
  | 0, .tup l, _, h, _ => nomatch h
  | 0, .lst l, _, h, _ => nomatch h
  | 0, .dct l, _, h, _ => nomatch h
  | n + 1, .dct l, _, h, _ => nomatch h
  | 0, .dcT l, _, h, _ => nomatch h
  | n + 1, .dcT l, _, h, _ => nomatch h
  | 0, .obj _ l, _, h, _ => nomatch h
  | n + 1, .obj _ l, _, h, _ => nomatch h
  | 0, .cls l, _, h, _ => nomatch h
  | n + 1, .cls l, _, h, _ => nomatch h
  | 0, .scr l, _, h, _ => nomatch h
  | n + 1, .scr l, _, h, _ => nomatch h
theorem canLay_all {n : Nat} (f : ∀ p, okEq n p = true → (toPy n p).canLay0 = true) : ∀ l : List P, l.all (okEq n) = true → PyData.canLayAll0 (l.map (toPy n)) = true
  | [], _ => rfl
  | a :: r, h => by
    rw [List.all_cons, Bool.and_eq_true] at h
    show (PyData.canLay0 _ && PyData.canLayAll0 _) = true
    rw [f a h.1, canLay_all f r h.2]; rfl
theorem canLay_of : ∀ (n : Nat) (p : P), okEq n p = true → (toPy n p).canLay0 = true
  | n, .non, h => by cases n <;> rfl
  | n, .bl b, h => by cases n <;> rfl
  | n, .int i, h => by cases n <;> rfl
  | 0, .str x, h => h
  | n + 1, .str x, h => h
  | n + 1, .tup l, h => canLay_all (canLay_of n) l h
  | n + 1, .lst l, h => canLay_all (canLay_of n) l h
  | 0, .tup l, h => nomatch h
  | 0, .lst l, h => nomatch h
  | 0, .dct l, h => nomatch h
  | n + 1, .dct l, h => nomatch h
  | 0, .dcT l, h => nomatch h
  | n + 1, .dcT l, h => nomatch h
  | 0, .obj _ l, h => nomatch h
  | n + 1, .obj _ l, h => nomatch h
  | 0, .cls l, h => nomatch h
  | n + 1, .cls l, h => nomatch h
  | 0, .scr l, h => nomatch h
  | n + 1, .scr l, h => nomatch h
theorem depth_all {n m : Nat} (f : ∀ p, (toPy n p).depth ≤ m) : ∀ l : List P, PyData.depthAll (l.map (toPy n)) ≤ m
  | [] => Nat.zero_le _
  | a :: r => by
    show max _ _ ≤ m
    have := f a
    have := depth_all f r
    omega
theorem depth_of : ∀ (n : Nat) (p : P), (toPy n p).depth ≤ n + 1 := by
  intro n
  induction n with
  | zero => intro p; cases p <;> exact Nat.le_of_ble_eq_true rfl
  | succ n ih =>
    intro p
    have all := depth_all ih
    cases p
    case tup l => exact Nat.succ_le_succ (all l)
    case lst l => exact Nat.succ_le_succ (all l)
    all_goals exact Nat.le_trans (show _ ≤ 1 from Nat.le_of_ble_eq_true rfl) (by omega)
theorem shaped_of (p : P) (h : okEq 8 p = true) : SeqAt.shaped (toPy 8 p) = true := by
  unfold SeqAt.shaped
  rw [canLay_of 8 p h, Bool.true_and, decide_eq_true_eq]
  have := depth_of 8 p
  omega
theorem eqvAll_zip {n : Nat} (f : ∀ p q, okEq n p = true → okEq n q = true → PyData.eqv (toPy n p) (toPy n q) = eqN n p q) : ∀ (l r : List P), l.all (okEq n) = true → r.all (okEq n) = true →
    PyData.eqvAll (l.map (toPy n)) (r.map (toPy n)) = (l.length == r.length && (l.zip r).all fun q => eqN n q.1 q.2)
  | [], [], _, _ => rfl
  | [], _ :: _, _, _ => rfl
  | _ :: _, [], _, _ => rfl
  | a :: l, b :: r, h, k => by
    rw [List.all_cons, Bool.and_eq_true] at h k
    have e := eqvAll_zip f l r h.2 k.2
    show (PyData.eqv _ _ && PyData.eqvAll _ _) = _
    rw [f a b h.1 k.1, e]
    simp only [List.length_cons, List.zip_cons_cons, List.all_cons]
    rw [show (l.length + 1 == r.length + 1) = (l.length == r.length) by simp [Bool.eq_iff_iff]]
    cases eqN n a b <;> cases (l.length == r.length) <;> simp
theorem eqv_of : ∀ (n : Nat) (p q : P), okEq n p = true → okEq n q = true → PyData.eqv (toPy n p) (toPy n q) = eqN n p q := by
  intro n
  induction n with
  | zero =>
    intro p q h k
    cases p <;> first | (cases h; done) | skip
    all_goals (cases q <;> first | (cases k; done) | rfl)
  | succ n ih =>
    intro p q h k
    cases p <;> first | (cases h; done) | skip
    all_goals (cases q <;> first | (cases k; done) | rfl | skip)
    · exact eqvAll_zip ih _ _ h k
    · exact eqvAll_zip ih _ _ h k

/-- two values, a truth value comes -/
theorem eqF_ok {x y : P} {b : Bool} (h : eqF x y = some b) {N : Nm} {w : Wd} {H : Hp} {v u : V} (rx : RelT N w H x v) (ry : RelT N w H y u) : scal v u = true ∧ decide (v = u) = b := by
  cases x <;> cases y <;> simp only [eqF, reduceCtorEq, Option.some.injEq] at h <;> (obtain rfl := rx; obtain rfl := ry; subst h) <;> (refine ⟨rfl, ?_⟩)
  all_goals first
    | exact dec_int
    | exact dec_bl
    | exact dec_str
    | simp
theorem flat_ok {x : P} (h : flatP x = true) {N : Nm} {w : Wd} {H : Hp} {v : V} (rx : RelT N w H x v) : flatV v = true := by
  cases x <;> first
    | (cases h; done)
    | (obtain rfl := rx; rfl)
theorem eqV_ok {x y : P} (h : flatP x = true) (k : flatP y = true) {N : Nm} {w : Wd} {H : Hp} {v u : V} (rx : RelT N w H x v) (ry : RelT N w H y u) : L2.eqV v u = eqV x y := by
  cases x <;> first
    | (cases h; done)
    | (cases y <;> first
      | (cases k; done)
      | (obtain rfl := rx; obtain rfl := ry; rfl))
theorem inV_ok {N : Nm} {w : Wd} {C : Cells} {H : Hp} (R : Rel N w C H) {x : P} {v : V} (fx : flatP x = true) (rx : RelT N w H x v) : ∀ {l : List P} {vs : List V}, l.all flatP = true → RelPs N w.F l vs → vs.all flatV = true ∧ inV v vs = l.any fun y => eqV y x
  | [], [], _, _ => ⟨rfl, rfl⟩
  | p :: l, u :: vs, h, ⟨a, b⟩ => by
    rw [List.all_cons, Bool.and_eq_true] at h
    obtain ⟨h1, h2⟩ := inV_ok R fx rx h.2 b
    refine ⟨?_, ?_⟩
    · rw [List.all_cons, flat_ok h.1 (R.top a), h1]; rfl
    · unfold inV at h2 ⊢
      rw [List.any_cons, List.any_cons, h2, eqV_ok h.1 fx (R.top a) rx]
  | [], _ :: _, _, h => h.elim
  | _ :: _, [], _, h => h.elim
section
variable {X : Cx} {N : Nm}
def rC (N : Nm) (o : COp) : R2 := fun x y H Q => ∃ (w : Wd) (C : Cells) (p q : P) (b : Bool), Rel N w C H ∧ RelT N w H p x ∧ RelT N w H q y ∧ cmpP o p q = some b ∧ Q (.bl b) H
theorem u_eq (hK : X.K = N.K) (hu : X.A.units + 64 < cLine) {pins : List (Addr × Obj)} {s : Shared} {σ : L2.St} {H : Hp} {x y : V} {v u : Value} {Q : VK} (I : Inv X pins σ H s) (rx : RelV x v) (ry : RelV y u) {w : Wd} {C : Cells} {p q : P} {b : Bool}
    (R : Rel N w C H) (r1 : RelT N w H p x) (r2 : RelT N w H q y) (e : eqP p q = some b) :
    (Q (.bl b) H → wpAny (model X.prog X.w) X.A (compareOp .Eq v u) (EP X pins σ Q) X.xe s) ∧ (Q (.bl (!b)) H → wpAny (model X.prog X.w) X.A (compareOp .NotEq v u) (EP X pins σ Q) X.xe s) := by
  unfold eqP at e
  cases e1 : eqF p q with
  | some c =>
    rw [e1] at e
    cases e
    obtain ⟨h1, h2⟩ := eqF_ok e1 r1 r2
    exact ⟨fun h => op_eq pins s σ H x y v u Q I rx ry ⟨h1, by rw [h2]; exact h⟩, fun h => op_ne pins s σ H x y v u Q I rx ry ⟨h1, by rw [h2]; exact h⟩⟩
  | none =>
    rw [e1] at e
    have e : (if (okEq 8 p && okEq 8 q) = true then some (eqN 8 p q) else none) = some b := e
    split at e
    · rename_i hh
      rw [Bool.and_eq_true] at hh
      cases e
      have d1 : Dp X.K H x (toPy 8 p) := by rw [hK]; exact dp_of R 8 p x hh.1 r1
      have d2 : Dp X.K H y (toPy 8 q) := by rw [hK]; exact dp_of R 8 q y hh.2 r2
      have q0 := eqv_of 8 p q hh.1 hh.2
      exact ⟨fun h => op_eqD hu pins s σ H x y v u Q I rx ry ⟨_, _, d1, d2, shaped_of p hh.1, shaped_of q hh.2, by rw [q0]; exact h⟩,
        fun h => op_neD hu pins s σ H x y v u Q I rx ry ⟨_, _, d1, d2, shaped_of p hh.1, shaped_of q hh.2, by rw [q0]; exact h⟩⟩
    · cases e
theorem one_sign {s : Str} (h : s.length = 1) : s = ⟨#[s.cps.getD 0 0]⟩ := by
  obtain ⟨⟨l⟩⟩ := s
  have h : l.length = 1 := h
  match l, h with
  | [a], _ => rfl
theorem u_in (hK : X.K = N.K) {pins : List (Addr × Obj)} {s : Shared} {σ : L2.St} {H : Hp} {x y : V} {v u : Value} {Q : VK} (I : Inv X pins σ H s) (rx : RelV x v) (ry : RelV y u) {w : Wd} {C : Cells} {p q : P} {b : Bool}
    (R : Rel N w C H) (r1 : RelT N w H p x) (r2 : RelT N w H q y) (e : inP p q = some b) (hn : ∀ l, q ≠ .dct l) (hn2 : ∀ l, q ≠ .dcT l) :
    (Q (.bl b) H → wpAny (model X.prog X.w) X.A (compareOp .In v u) (EP X pins σ Q) X.xe s) ∧ (Q (.bl (!b)) H → wpAny (model X.prog X.w) X.A (compareOp .NotIn v u) (EP X pins σ Q) X.xe s) := by
  cases q <;> simp only [inP, reduceCtorEq] at e
  · -- str
    cases p <;> simp only [reduceCtorEq] at e
    split at e
    · rename_i h1
      cases e
      obtain rfl := r1
      obtain rfl := r2
      rename_i sp sq
      rw [one_sign h1] at rx
      exact ⟨fun h => op_in_sign pins s σ H _ _ v u Q I rx ry ⟨_, _, rfl, rfl, h⟩, fun h => op_notIn_sign pins s σ H _ _ v u Q I rx ry ⟨_, _, rfl, rfl, h⟩⟩
    · cases e
  · obtain ⟨a, vs, rfl, ha, p1⟩ := r2
    split at e
    · rename_i hh
      rw [Bool.and_eq_true] at hh
      cases e
      obtain ⟨f1, f2⟩ := inV_ok R hh.1 r1 hh.2 p1
      have f3 := flat_ok hh.1 r1
      exact ⟨fun h => op_in_seq pins s σ H _ _ v u Q I rx ry ⟨a, vs, rfl, .inr (.of (R.tupH ha)), f3, f1, by rw [if_neg Bool.false_ne_true, f2]; exact h⟩,
        fun h => op_notIn_seq pins s σ H _ _ v u Q I rx ry ⟨a, vs, rfl, .inr (.of (R.tupH ha)), f3, f1, by rw [if_pos rfl, f2]; exact h⟩⟩
    · cases e
  · obtain ⟨a, vs, rfl, ha, p1⟩ := r2
    split at e
    · rename_i hh
      rw [Bool.and_eq_true] at hh
      cases e
      obtain ⟨f1, f2⟩ := inV_ok R hh.1 r1 hh.2 p1
      have f3 := flat_ok hh.1 r1
      exact ⟨fun h => op_in_seq pins s σ H _ _ v u Q I rx ry ⟨a, vs, rfl, .inl (.of ha), f3, f1, by rw [if_neg Bool.false_ne_true, f2]; exact h⟩,
        fun h => op_notIn_seq pins s σ H _ _ v u Q I rx ry ⟨a, vs, rfl, .inl (.of ha), f3, f1, by rw [if_pos rfl, f2]; exact h⟩⟩
    · cases e
  · exact absurd rfl (hn _)
  · exact absurd rfl (hn2 _)
end
end FW

set_option maxRecDepth 100000
set_option maxHeartbeats 2000000
/-! FwC2: comparisons, subscripts, slices, built-ins by values. -/
namespace FW
open PySem PySem.Spec PyProof.Rows L2
/-! ### dicts -/
theorem keyP_ok {x : P} {k : Key} (h : keyP x = some k) {N : Nm} {w : Wd} {H : Hp} {v : V} (r : RelT N w H x v) : v = kV k := by
  cases x <;> simp only [keyP, reduceCtorEq, Option.some.injEq] at h <;> (subst h; exact r)
theorem keysP_ok {N : Nm} {w : Wd} {C : Cells} {H : Hp} (R : Rel N w C H) : ∀ {l : List P} {ks : List Key} {vs : List V}, keysP l = some ks → RelPs N w.F l vs → vs = ks.map kV
  | [], ks, [], h, _ => by
    simp only [keysP, Option.some.injEq] at h
    subst h; rfl
  | x :: l, ks, v :: vs, h, ⟨a, b⟩ => by
    unfold keysP at h
    cases e1 : keyP x with
    | none => rw [e1] at h; cases h
    | some k =>
      cases e2 : keysP l with
      | none => rw [e1, e2] at h; cases h
      | some r =>
        rw [e1, e2] at h
        have h : some (k :: r) = some ks := h
        cases h
        rw [keyP_ok e1 (R.top a), keysP_ok R e2 b]; rfl
  | [], _, _ :: _, _, h => h.elim
  | _ :: _, _, [], _, h => h.elim
theorem getK_ok {N : Nm} {F : Hp} {k : Key} : ∀ {l : List (Key × P)} {kvs : List (Key × V)}, RelKs N F l kvs → (valV kvs k).isSome = hasK l k ∧ ∀ x, getK l k = some x → ∃ v, valV kvs k = some v ∧ RelP N F x v
  | [], [], _ => ⟨rfl, fun x h => nomatch h⟩
  | (k1, p) :: l, (k2, v) :: kvs, ⟨e, a, b⟩ => by
    subst e
    obtain ⟨i1, i2⟩ := getK_ok (k := k) b
    unfold valV hasK getK at *
    by_cases hk : k1 = k
    · simp only [List.find?_cons, decide_eq_true hk, Option.map_some, Option.isSome_some, true_and]
      intro x h; cases h; exact ⟨v, rfl, a⟩
    · simp only [List.find?_cons, decide_eq_false hk]
      exact ⟨i1, i2⟩
  | [], _ :: _, h => h.elim
  | _ :: _, [], h => h.elim
theorem getT_ok {N : Nm} {F : Hp} {k : List Key} : ∀ {l : List (List Key × P)} {kvs : List (List Key × V)}, RelTs N F l kvs → (valV kvs k).isSome = hasK l k ∧ ∀ x, getK l k = some x → ∃ v, valV kvs k = some v ∧ RelP N F x v
  | [], [], _ => ⟨rfl, fun x h => nomatch h⟩
  | (k1, p) :: l, (k2, v) :: kvs, ⟨e, a, b⟩ => by
    subst e
    obtain ⟨i1, i2⟩ := getT_ok (k := k) b
    unfold valV hasK getK at *
    by_cases hk : k1 = k
    · simp only [List.find?_cons, decide_eq_true hk, Option.map_some, Option.isSome_some, true_and]
      intro x h; cases h; exact ⟨v, rfl, a⟩
    · simp only [List.find?_cons, decide_eq_false hk]
      exact ⟨i1, i2⟩
  | [], _ :: _, h => h.elim
  | _ :: _, [], h => h.elim
/-- what a dict holds under a key -/
theorem dget_ok {N : Nm} {w : Wd} {C : Cells} {H : Hp} (R : Rel N w C H) {o i : P} {x y : V} (ro : RelT N w H o x) (ri : RelT N w H i y) :
    (∀ l, o = .dct l → ∀ k, keyP i = some k → ∃ a, x = .ref a ∧ ∃ ov, DGet H a y ov ∧ ov.isSome = hasK l k ∧ ∀ z, getK l k = some z → ∃ v, ov = some v ∧ RelP N w.F z v) ∧
    (∀ l, o = .dcT l → ∀ is k, i = .tup is → keysP is = some k → ∃ a, x = .ref a ∧ ∃ ov, DGet H a y ov ∧ ov.isSome = hasK l k ∧ ∀ z, getK l k = some z → ∃ v, ov = some v ∧ RelP N w.F z v) := by
  refine ⟨fun l e k hk => ?_, fun l e is k ei hk => ?_⟩
  · subst e
    obtain ⟨a, kvs, rfl, ha, q⟩ := ro
    exact ⟨a, rfl, _, .inl ⟨kvs, k, ha, keyP_ok hk ri, rfl⟩, getK_ok q⟩
  · subst e
    subst ei
    obtain ⟨a, kvs, rfl, ha, q⟩ := ro
    obtain ⟨b, vs, rfl, hb, q2⟩ := ri
    have e := keysP_ok R hk q2
    subst e
    exact ⟨a, rfl, _, .inr ⟨kvs, k, b, ha, rfl, R.tupH hb, rfl⟩, getT_ok q⟩
section
variable {X : Cx} {N : Nm}
theorem u_cmp (hK : X.K = N.K) (hu : X.A.units + 64 < cLine) {op : CmpOp} {o : COp} (ho : cmpOf op = some o) : OpR X (compareOp op) (rC N o) := by
  intro pins s σ H x y v u Q I rx ry hh
  obtain ⟨w, C, p, q, b, R, r1, r2, e, h⟩ := hh
  have hin : ∀ {b}, inP p q = some b → (Q (.bl b) H → wpAny (model X.prog X.w) X.A (compareOp .In v u) (EP X pins σ Q) X.xe s) ∧ (Q (.bl (!b)) H → wpAny (model X.prog X.w) X.A (compareOp .NotIn v u) (EP X pins σ Q) X.xe s) := fun {b} e => by
    by_cases d1 : ∃ l, q = .dct l
    · obtain ⟨l, rfl⟩ := d1
      unfold inP at e
      cases e1 : keyP p with
      | none => rw [e1] at e; cases e
      | some k =>
        rw [e1] at e
        cases e
        obtain ⟨a, rfl, ov, g, e2, _⟩ := (dget_ok R r2 r1).1 l rfl k e1
        obtain rfl : u = Value.ref a := ry
        have hu' : X.A.units + 1 < cLine := by omega
        exact ⟨fun h => d_in hu' I g rx fun s' I' => ⟨.bl ov.isSome, H, I', rfl, by rw [e2]; exact h⟩, fun h => d_notIn hu' I g rx fun s' I' => ⟨.bl (!ov.isSome), H, I', rfl, by rw [e2]; exact h⟩⟩
    · by_cases d2 : ∃ l, q = .dcT l
      · obtain ⟨l, rfl⟩ := d2
        obtain ⟨is, rfl⟩ : ∃ is, p = .tup is := by
          cases p <;> simp only [inP, reduceCtorEq] at e
          exact ⟨_, rfl⟩
        have e : (keysP is).map (fun k => hasK l k) = some b := e
        cases e1 : keysP is with
        | none => rw [e1] at e; cases e
        | some k =>
          rw [e1] at e
          cases e
          obtain ⟨a, rfl, ov, g, e2, _⟩ := (dget_ok R r2 r1).2 l rfl is k rfl e1
          obtain rfl : u = Value.ref a := ry
          have hu' : X.A.units + 1 < cLine := by omega
          exact ⟨fun h => d_in hu' I g rx fun s' I' => ⟨.bl ov.isSome, H, I', rfl, by rw [e2]; exact h⟩, fun h => d_notIn hu' I g rx fun s' I' => ⟨.bl (!ov.isSome), H, I', rfl, by rw [e2]; exact h⟩⟩
      · exact u_in hK I rx ry R r1 r2 e (fun l z => d1 ⟨l, z⟩) (fun l z => d2 ⟨l, z⟩)
  have hnon : ∀ {z : P} {t : V}, RelT N w H z t → (t = .non ↔ z = .non) := fun {z t} r => by
    cases z <;> first
      | (obtain rfl := r; simp; done)
      | (obtain ⟨a, _, rfl, _⟩ := r; simp; done)
      | (obtain ⟨a, _, _, rfl, _⟩ := r; simp; done)
  cases op <;> simp only [cmpOf, Option.some.injEq, reduceCtorEq] at ho <;> subst ho
  · exact (u_eq hK hu I rx ry R r1 r2 e).1 h
  · have e : (eqP p q).map (!·) = some b := e
    cases e1 : eqP p q with
    | none => rw [e1] at e; cases e
    | some c =>
      rw [e1] at e
      cases e
      exact (u_eq hK hu I rx ry R r1 r2 e1).2 h
  · cases p <;> cases q <;> simp only [cmpP, ltP, reduceCtorEq, Option.some.injEq] at e <;> (obtain rfl := r1; obtain rfl := r2; subst e)
    · exact op_lt pins s σ H _ _ v u Q I rx ry ⟨_, _, rfl, rfl, h⟩
    · exact op_lt_str pins s σ H _ _ v u Q I rx ry ⟨_, _, rfl, rfl, h⟩
  · cases p <;> cases q <;> simp only [cmpP, ltP, reduceCtorEq, Option.some.injEq] at e <;> (obtain rfl := r1; obtain rfl := r2; subst e)
    · exact op_le pins s σ H _ _ v u Q I rx ry ⟨_, _, rfl, rfl, h⟩
    · exact op_le_str pins s σ H _ _ v u Q I rx ry ⟨_, _, rfl, rfl, h⟩
  · cases p <;> cases q <;> simp only [cmpP, ltP, reduceCtorEq, Option.some.injEq] at e <;> (obtain rfl := r1; obtain rfl := r2; subst e)
    · exact op_gt pins s σ H _ _ v u Q I rx ry ⟨_, _, rfl, rfl, h⟩
    · exact op_gt_str pins s σ H _ _ v u Q I rx ry ⟨_, _, rfl, rfl, h⟩
  · cases p <;> cases q <;> simp only [cmpP, ltP, reduceCtorEq, Option.some.injEq] at e <;> (obtain rfl := r1; obtain rfl := r2; subst e)
    · exact op_ge pins s σ H _ _ v u Q I rx ry ⟨_, _, rfl, rfl, h⟩
    · exact op_ge_str pins s σ H _ _ v u Q I rx ry ⟨_, _, rfl, rfl, h⟩
  · have hq : q = .non ∧ b = decide (x = .non) := by
      have := hnon r1
      cases p <;> cases q <;> simp only [cmpP, ltP, reduceCtorEq, Option.some.injEq] at e <;> (subst e; simp [this])
    obtain ⟨rfl, rfl⟩ := hq
    obtain rfl := r2
    exact op_isN pins s σ H _ _ v u Q I rx ry ⟨rfl, h⟩
  · have hq : q = .non ∧ b = !decide (x = .non) := by
      have := hnon r1
      cases p <;> cases q <;> simp only [cmpP, ltP, reduceCtorEq, Option.some.injEq] at e <;> (subst e; simp [this])
    obtain ⟨rfl, rfl⟩ := hq
    obtain rfl := r2
    exact op_notN pins s σ H _ _ v u Q I rx ry ⟨rfl, h⟩
  · exact (hin e).1 h
  · have e : (inP p q).map (!·) = some b := e
    cases e1 : inP p q with
    | none => rw [e1] at e; cases e
    | some c =>
      rw [e1] at e
      cases e
      exact (hin e1).2 h
theorem atI_rel {N : Nm} {F : Hp} {l : List P} {vs : List V} {i : Int} {x : P} (r : RelPs N F l vs) (h : atI l i = some x) : ∃ v, atI vs i = some v ∧ RelP N F x v := by
  unfold atI at h ⊢
  rw [← r.len]
  cases e : ixN l.length i with
  | none => rw [e] at h; cases h
  | some j =>
    rw [e] at h
    exact RelPs.get r h
/-- o[i] -/
theorem u_ix (hK : X.K = N.K) (hu : X.A.units + 64 < cLine) : IxR X (rB N ixP) := by
  intro value slice pins s σ H x y v u Q I rx ry hh hs
  obtain ⟨w, C, p, q, r, σ', W, R, r1, r2, e, h⟩ := rB_open hh
  clear hh
  cases p <;> simp only [ixP, reduceCtorEq] at e
  · cases q <;> simp only [reduceCtorEq] at e
    obtain rfl := r1
    obtain rfl := r2
    split at e
    · rename_i hz
      cases e2 : atI (Str.cps ‹Str›).toList ‹Int› with
      | none => rw [e2] at e; cases e
      | some c =>
        rw [e2] at e
        cases e
        exact ix_str value slice pins s σ H _ _ v u Q I rx ry ⟨_, _, c, rfl, rfl, by rw [← big_eq]; exact hz, e2, h.done R rfl⟩ hs
    · cases e
  · cases q <;> simp only [reduceCtorEq] at e
    obtain ⟨a, vs, rfl, ha, p1⟩ := r1
    obtain rfl := r2
    obtain ⟨z, e2, rz⟩ := atI_rel p1 e
    exact ix_tup value slice pins s σ H _ _ v u Q I rx ry ⟨a, vs, _, z, rfl, rfl, .of (R.tupH ha), e2, h.done R rz⟩ hs
  · cases q <;> simp only [reduceCtorEq] at e
    obtain ⟨a, vs, rfl, ha, p1⟩ := r1
    obtain rfl := r2
    obtain ⟨z, e2, rz⟩ := atI_rel p1 e
    exact ix_list value slice pins s σ H _ _ v u Q I rx ry ⟨a, vs, _, z, rfl, rfl, .of ha, e2, h.done R rz⟩ hs
  · rename_i l
    cases e1 : keyP q with
    | none => rw [e1] at e; cases e
    | some k =>
      rw [e1] at e
      obtain ⟨a, rfl, ov, g, _, g2⟩ := (dget_ok R r1 r2).1 l rfl k e1
      obtain rfl : v = Value.ref a := rx
      obtain ⟨z, rfl, rz⟩ := g2 r e
      exact tail_any (dict_typeIs I g) PySem.F.slot_dict_getitem.lookup (d_getItem (by omega) I g ry fun w' s3 I3 rw' => ⟨z, H, I3, rw', h.done R rz⟩) hs
  · rename_i l
    cases q <;> simp only [reduceCtorEq] at e
    rename_i is
    cases e1 : keysP is with
    | none => rw [e1] at e; cases e
    | some k =>
      rw [e1] at e
      obtain ⟨a, rfl, ov, g, _, g2⟩ := (dget_ok R r1 r2).2 l rfl is k rfl e1
      obtain rfl : v = Value.ref a := rx
      obtain ⟨z, rfl, rz⟩ := g2 r e
      exact tail_any (dict_typeIs I g) PySem.F.slot_dict_getitem.lookup (d_getItem (by omega) I g ry fun w' s3 I3 rw' => ⟨z, H, I3, rw', h.done R rz⟩) hs
/-- a[lo:hi] -/
def rS (N : Nm) (k : Bool) : V → Option Int → Option Int → Hp → VK → Prop := fun x lo hi H Q => ∃ (w : Wd) (C : Cells) (d : D) (σ : L2.St) (W : WX), Rel N w C H ∧ RelD N w d x ∧
  Post N w σ W (RelD N) (match (view C d).bind fun x => slP x lo hi with
    | some (.lst r) => alloc k (.lst r) C
    | some r => .ok (.p r) C
    | none => .stuck) Q
theorem u_sl (hK : X.K = N.K) {k : Bool} : SlR X (rS N k) := by
  intro pins s σ H x v vl vu lo hi sl Q I rx hs pl pu hh
  obtain ⟨w, C, d, σ', W, R, r1, h⟩ := hh
  cases e1 : view C d with
  | none => rw [e1] at h; exact h.elim
  | some p =>
    rw [e1, Option.bind_some] at h
    have r1 := R.view r1 e1
    cases p <;> simp only [slP] at h
    case str z =>
      obtain rfl := r1
      by_cases hz : z.length ≤ big
      · rw [if_pos hz] at h
        exact sl_str pins s σ H _ v vl vu lo hi sl Q I rx hs pl pu ⟨z, rfl, by rw [← big_eq]; exact hz, h.done R rfl⟩
      · rw [if_neg hz] at h; exact h.elim
    case lst l =>
      obtain ⟨a, vs, rfl, ha, p1⟩ := r1
      refine sl_list pins s σ H _ v vl vu lo hi sl Q I rx hs pl pu ⟨a, vs, rfl, .of ha, ?_⟩
      have q := (p1.drop (HT.sIx l.length 0 lo)).take (HT.sIx l.length l.length hi - HT.sIx l.length 0 lo)
      have e : cutV vs lo hi = ((vs.drop (HT.sIx l.length 0 lo)).take (HT.sIx l.length l.length hi - HT.sIx l.length 0 lo)) := by
        unfold cutV; rw [p1.len]
      rw [e]
      exact fin_alloc h R q
    case tup l =>
      obtain ⟨a, vs, rfl, ha, p1⟩ := r1
      have q := (p1.drop (HT.sIx l.length 0 lo)).take (HT.sIx l.length l.length hi - HT.sIx l.length 0 lo)
      have e : cutV vs lo hi = ((vs.drop (HT.sIx l.length 0 lo)).take (HT.sIx l.length l.length hi - HT.sIx l.length 0 lo)) := by
        unfold cutV; rw [p1.len]
      refine sl_tupA pins s σ H _ v vl vu lo hi sl Q I rx hs pl pu ⟨a, vs, rfl, .of (R.tupH ha), fun hw => ?_, fun _ => ?_⟩
      · refine h.done R ⟨a, vs, rfl, ha, ?_⟩
        rw [← p1.len] at hw
        rw [hw.1, hw.2, List.drop_zero, Nat.sub_zero, List.take_length]
        exact p1
      · rw [e]
        exact fin_tup h R q
    all_goals exact h.elim
/-! ### truth -/
theorem u_tru (hK : X.K = N.K) : TruR X (fun x H Q => ∃ (w : Wd) (C : Cells) (d : D) (σ : L2.St) (W : WX), Rel N w C H ∧ RelD N w d x ∧ Post N w σ W (fun _ (a b : Bool) => a = b) (ofO ((view C d).bind truP) C) Q) := by
  intro pins s σ H x v Q I rx hh
  obtain ⟨w, C, d, σ', W, R, r1, h⟩ := hh
  cases e1 : view C d with
  | none => rw [e1] at h; exact h.elim
  | some p =>
    rw [e1, Option.bind_some] at h
    have r1 := R.view r1 e1
    cases e2 : truP p with
    | none => rw [e2] at h; exact h.elim
    | some b =>
      rw [e2] at h
      refine tru_ok pins s σ H x v Q I rx ⟨b, ?_, h.done R rfl⟩
      have emp : ∀ {α β : Type} {l : List α} {r : List β}, l.length = r.length → (!l.isEmpty) = !r.isEmpty := fun {α β l r} e => by
        cases l <;> cases r <;> first | rfl | (simp at e; done)
      cases p <;> simp only [truP, reduceCtorEq, Option.some.injEq] at e2
      · obtain rfl := r1; exact e2.symm
      · obtain rfl := r1; exact e2.symm
      · obtain rfl := r1; exact e2.symm
      · obtain rfl := r1
        split at e2
        · rename_i hz
          cases e2
          exact ⟨by rw [← big_eq]; exact hz, (by
            have q : ∀ n : Nat, (n != 0) = ((n : Int) != 0) := fun n => by cases n <;> rfl
            exact q _)⟩
        · cases e2
      · obtain ⟨a, vs, rfl, ha, p1⟩ := r1
        exact .inr (.inl ⟨vs, .of (R.tupH ha), by rw [← e2]; exact emp p1.len⟩)
      · obtain ⟨a, vs, rfl, ha, p1⟩ := r1
        exact .inl ⟨vs, .of ha, by rw [← e2]; exact emp p1.len⟩
end
end FW

set_option maxRecDepth 100000
set_option maxHeartbeats 2000000
/-! FwC3: built-ins by values. -/
namespace FW
open PySem PySem.Spec PyProof.Rows L2
/-- the built-in's value -/
def btV : Bt → Value
  | .len => .builtin "len"
  | .int => .type "int"
  | .str => .type "str"
  | .bool => .type "bool"
  | .list => .type "list"
  | .tuple => .type "tuple"
  | .dict => .type "dict"
  | .sorted => .builtin "sorted"
  | .min => .builtin "min"
  | .max => .builtin "max"
  | .sum => .builtin "sum"
  | .abs => .builtin "abs"
  | .any => .builtin "any"
  | .all => .builtin "all"
def btN : Bt → Str
  | .len => "len"
  | .int => "int"
  | .str => "str"
  | .bool => "bool"
  | .list => "list"
  | .tuple => "tuple"
  | .dict => "dict"
  | .sorted => "sorted"
  | .min => "min"
  | .max => "max"
  | .sum => "sum"
  | .abs => "abs"
  | .any => "any"
  | .all => "all"
def btAll : List Bt := [.len, .int, .str, .bool, .list, .tuple, .dict, .sorted, .min, .max, .sum, .abs, .any, .all]
def btOf (x : Str) : Option Bt := btAll.find? fun b => decide (btN b = x)
theorem btOf_ok {x : Str} {b : Bt} (h : btOf x = some b) : btN b = x := by
  have := List.find?_some h
  exact of_decide_eq_true this
theorem bt_boot (b : Bt) : bootBuiltins (btN b) = some (btV b) ∧ btN b ≠ "__name__" ∧ (btN b == ("__debug__" : Str)) = false := by
  cases b <;> exact ⟨by decide +kernel, by decide +kernel, by decide +kernel⟩
def rT (N : Nm) (b : Bt) : List V → Hp → VK → Prop := fun vs H Q => ∃ (w : Wd) (C : Cells) (ds : List D) (k : Bool) (σ : L2.St) (W : WX), Rel N w C H ∧ RelDs N w ds vs ∧ Post N w σ W (RelD N) (btD b k C ds) Q
theorem rT_open {N : Nm} {b : Bt} {vs : List V} {H : Hp} {Q : VK} (h : rT N b vs H Q) : ∃ (w : Wd) (C : Cells) (k : Bool) (σ : L2.St) (W : WX) (r : P × Bool), Rel N w C H ∧ Post N w σ W (RelD N) (btR k C (some r)) Q ∧
    ((∃ p v, vs = [v] ∧ RelT N w H p v ∧ btP1 b p = some r) ∨ (∃ p q v u, vs = [v, u] ∧ RelT N w H p v ∧ RelT N w H q u ∧ btP2 b p q = some r)) := by
  obtain ⟨w, C, ds, k, σ, W, R, rd, h⟩ := h
  match ds, vs, rd with
  | [], [], _ => exact h.elim
  | [d], [v], ⟨r1, _⟩ =>
    have h : Post N w σ W (RelD N) (btR k C ((view C d).bind (btP1 b))) Q := h
    cases e1 : view C d with
    | none => rw [e1] at h; exact h.elim
    | some p =>
      rw [e1, Option.bind_some] at h
      cases e2 : btP1 b p with
      | none => rw [e2] at h; exact h.elim
      | some r =>
        rw [e2] at h
        exact ⟨w, C, k, σ, W, r, R, h, .inl ⟨p, v, rfl, R.view r1 e1, e2⟩⟩
  | [d, d'], [v, v'], ⟨r1, r2, _⟩ =>
    have h : Post N w σ W (RelD N) (btR k C ((view C d).bind fun x => (view C d').bind fun y => btP2 b x y)) Q := h
    cases e1 : view C d with
    | none => rw [e1] at h; exact h.elim
    | some p =>
      rw [e1, Option.bind_some] at h
      cases e3 : view C d' with
      | none => rw [e3] at h; exact h.elim
      | some p' =>
        rw [e3, Option.bind_some] at h
        cases e2 : btP2 b p p' with
        | none => rw [e2] at h; exact h.elim
        | some r =>
          rw [e2] at h
          exact ⟨w, C, k, σ, W, r, R, h, .inr ⟨p, p', v, v', rfl, R.view r1 e1, R.view r2 e3, e2⟩⟩
  | d1 :: d2 :: d3 :: ds, v1 :: v2 :: v3 :: vs, _ => exact h.elim
theorem ints_rel {N : Nm} {F : Hp} : ∀ {l : List P} {vs : List V} {ns : List Int}, intsP l = some ns → RelPs N F l vs → vs = ns.map V.int
  | [], [], ns, h, _ => by
    simp only [intsP, Option.some.injEq] at h
    subst h; rfl
  | p :: l, v :: vs, ns, h, ⟨a, b⟩ => by
    cases p <;> simp only [intsP, reduceCtorEq] at h
    cases e : intsP l with
    | none => rw [e] at h; cases h
    | some r =>
      rw [e] at h
      cases h
      obtain rfl := a
      rw [ints_rel e b]; rfl
  | [], _ :: _, _, _, h => h.elim
  | _ :: _, [], _, _, h => h.elim
theorem bls_rel {N : Nm} {F : Hp} : ∀ {l : List P} {vs : List V} {ns : List Bool}, blsP l = some ns → RelPs N F l vs → vs = ns.map V.bl
  | [], [], ns, h, _ => by
    simp only [blsP, Option.some.injEq] at h
    subst h; rfl
  | p :: l, v :: vs, ns, h, ⟨a, b⟩ => by
    cases p <;> simp only [blsP, reduceCtorEq] at h
    cases e : blsP l with
    | none => rw [e] at h; cases h
    | some r =>
      rw [e] at h
      cases h
      obtain rfl := a
      rw [bls_rel e b]; rfl
  | [], _ :: _, _, _, h => h.elim
  | _ :: _, [], _, _, h => h.elim
section
variable {X : Cx} {N : Nm}
/-- what a built-in is called by -/
def BtR (X : Cx) (N : Nm) (b : Bt) : Prop := match btV b with
  | .builtin n => CallR X (.builtin n) (rT N b)
  | .type n => CallR X (.type n) (rT N b)
  | _ => False
theorem u_len (hK : X.K = N.K) : CallR X (.builtin "len") (rT N .len) := by
  intro pins s σ H xs us Q I r hh
  obtain ⟨w, C, k, σ', W, q, R, h, (⟨p, v, rfl, r1, e⟩ | ⟨p, p', v, v', rfl, r1, r2, e⟩)⟩ := rT_open hh
  · clear hh
    rw [show btP1 .len p = (lenP p).map (fun n => (P.int (n : Nat), false)) from by simp only [btP1]] at e
    cases e1 : lenP p with
    | none => rw [e1] at e; cases e
    | some n =>
      rw [e1] at e
      cases e
      have go : LenV X.K v H n → wpAny (model X.prog X.w) X.A (call (.builtin "len") us) (EP X pins σ Q) X.xe s := fun z => call_len pins s σ H _ us Q I r ⟨v, n, rfl, z, h.done R rfl⟩
      cases p <;> simp only [lenP, reduceCtorEq, Option.some.injEq] at e1
      · obtain rfl := r1
        split at e1
        · rename_i hz
          cases e1
          exact go ⟨by rw [← big_eq]; exact hz, rfl⟩
        · cases e1
      · obtain ⟨a, vs, rfl, ha, p1⟩ := r1
        exact go (.inr ⟨vs, .of (R.tupH ha), by rw [← e1]; exact p1.len⟩)
      · obtain ⟨a, vs, rfl, ha, p1⟩ := r1
        exact go (.inl ⟨vs, .of ha, by rw [← e1]; exact p1.len⟩)
      · obtain ⟨a, kvs, rfl, ha, p1⟩ := r1
        obtain ⟨u, rfl, ru⟩ := vals1 r
        cases ru
        have len : ∀ {l : List (Key × P)} {kvs : List (Key × V)}, RelKs N w.F l kvs → l.length = kvs.length := by
          intro l
          induction l with
          | nil => intro kvs h; cases kvs with
            | nil => rfl
            | cons _ _ => exact h.elim
          | cons q l ih => intro kvs h; cases kvs with
            | nil => exact h.elim
            | cons _ _ => exact congrArg (· + 1) (ih h.2.2)
        rw [← e1, len p1] at h
        exact d_len I ha fun t s' I' => ⟨.int kvs.length, H, I', ⟨t, rfl⟩, h.done R rfl⟩
      · obtain ⟨a, vs, rfl, ha, p1⟩ := r1
        exact go (.inl ⟨vs, by rw [hK]; exact ha, by rw [← e1]; exact p1.len⟩)
  · cases e
theorem u_bt (hK : X.K = N.K) (hc : X.calm = true) (b : Bt) : BtR X N b := by
  cases b
  case len => exact u_len hK
  all_goals
    intro pins s σ H xs us Q I r hh
    obtain ⟨w, C, k, σ', W, q, R, h, (⟨p, v, rfl, r1, e⟩ | ⟨p, p', v, v', rfl, r1, r2, e⟩)⟩ := rT_open hh <;> clear hh
  case int.inl =>
    cases p <;> simp only [btP1, reduceCtorEq, Option.some.injEq] at e <;> subst e <;> obtain rfl := r1
    · exact call_int1 pins s σ H _ us Q I r (.inr ⟨_, rfl, h.done R rfl⟩)
    · exact call_int1 pins s σ H _ us Q I r (.inl ⟨_, rfl, h.done R rfl⟩)
  case bool.inl =>
    cases p <;> simp only [btP1, reduceCtorEq, Option.some.injEq] at e <;> subst e <;> obtain rfl := r1
    · exact call_bool1 pins s σ H _ us Q I r (.inr ⟨_, rfl, h.done R rfl⟩)
    · exact call_bool1 pins s σ H _ us Q I r (.inl ⟨_, rfl, h.done R rfl⟩)
  case str.inl =>
    cases p <;> simp only [btP1, reduceCtorEq, Option.some.injEq] at e <;> subst e <;> obtain rfl := r1
    exact SkE.call_str_str pins s σ H _ us Q I r ⟨_, rfl, h.done R rfl⟩
  case list.inl =>
    cases p <;> simp only [btP1, reduceCtorEq, Option.some.injEq] at e <;> subst e <;> obtain ⟨a, vs, rfl, ha, p1⟩ := r1
    · exact call_list_of pins s σ H _ us Q I r ⟨a, vs, rfl, .inr (.of (R.tupH ha)), fin_alloc h R p1⟩
    · exact call_list_of pins s σ H _ us Q I r ⟨a, vs, rfl, .inl (.of ha), fin_alloc h R p1⟩
  case tuple.inl =>
    cases p <;> simp only [btP1, reduceCtorEq, Option.some.injEq] at e <;> subst e <;> obtain ⟨a, vs, rfl, ha, p1⟩ := r1
    · exact call_tuple_of pins s σ H _ us Q I r ⟨a, vs, rfl, .inr ⟨.of (R.tupH ha), h.done R ⟨a, vs, rfl, ha, p1⟩⟩⟩
    · exact call_tuple_of pins s σ H _ us Q I r ⟨a, vs, rfl, .inl ⟨.of ha, fin_tup h R p1⟩⟩
  case abs.inl =>
    cases p <;> simp only [btP1, reduceCtorEq, Option.some.injEq] at e <;> subst e <;> obtain rfl := r1
    exact call_abs pins s σ H _ us Q I r ⟨_, rfl, h.done R rfl⟩
  case sum.inl =>
    cases p <;> simp only [btP1, reduceCtorEq, Option.some.injEq] at e <;> obtain ⟨a, vs, rfl, ha, p1⟩ := r1
    cases e1 : intsP ‹List P› with
    | none => rw [e1] at e; cases e
    | some ns =>
      rw [e1] at e
      cases e
      exact cr_sum hc pins s σ H _ us Q I r ⟨a, ns, rfl, by rw [← ints_rel e1 p1]; exact .of ha, h.done R rfl⟩
  case any.inl =>
    cases p <;> simp only [btP1, reduceCtorEq, Option.some.injEq] at e <;> obtain ⟨a, vs, rfl, ha, p1⟩ := r1
    cases e1 : blsP ‹List P› with
    | none => rw [e1] at e; cases e
    | some ns =>
      rw [e1] at e
      cases e
      exact cr_any hc pins s σ H _ us Q I r ⟨a, ns, rfl, by rw [← bls_rel e1 p1]; exact .of ha, h.done R rfl⟩
  case all.inl =>
    cases p <;> simp only [btP1, reduceCtorEq, Option.some.injEq] at e <;> obtain ⟨a, vs, rfl, ha, p1⟩ := r1
    cases e1 : blsP ‹List P› with
    | none => rw [e1] at e; cases e
    | some ns =>
      rw [e1] at e
      cases e
      exact cr_all hc pins s σ H _ us Q I r ⟨a, ns, rfl, by rw [← bls_rel e1 p1]; exact .of ha, h.done R rfl⟩
  case min.inr =>
    cases p <;> cases p' <;> simp only [btP2, reduceCtorEq, Option.some.injEq] at e <;> subst e <;> obtain rfl := r1 <;> obtain rfl := r2
    exact call_min2 hc pins s σ H _ us Q I r ⟨_, _, rfl, h.done R rfl⟩
  case max.inr =>
    cases p <;> cases p' <;> simp only [btP2, reduceCtorEq, Option.some.injEq] at e <;> subst e <;> obtain rfl := r1 <;> obtain rfl := r2
    exact call_max2 hc pins s σ H _ us Q I r ⟨_, _, rfl, h.done R rfl⟩
  all_goals cases e
end
end FW

set_option maxRecDepth 100000
set_option maxHeartbeats 2000000
/-! FwD1: expressions, construct by construct. -/
namespace FW
open PySem PySem.Spec PyProof.Rows L2
theorem relP_of {N : Nm} {F : Hp} {a : Addr} {o : P} {u : HO} (h : F a = some u) (r : RelO N F o u) : RelP N F o (.ref a) := by
  cases o <;> cases u <;> first
    | exact (show False from r).elim
    | exact ⟨a, _, rfl, h, r⟩
    | (obtain ⟨e, r⟩ := (show _ ∧ RelFs N F _ _ from r)
       exact ⟨a, _, _, rfl, by rw [← e]; exact h, r⟩)
section
variable {N : Nm} {w : Wd} {C : Cells} {H : Hp}
/-- one cell is kept behind the first n -/
theorem Rel.keep1 (R : Rel N w C H) {n m : Nat} {a : Addr} {cl : Cl} (hm : n ≤ m) (ha : w.io[m]? = some a) (hc : C[m]? = some cl) :
    Rel N { w.cut n with io := w.io.take n ++ [a] } (C.take n ++ [cl]) H := by
  have Rc := R.cut n
  have hn : n ≤ C.length := Nat.le_trans hm (Nat.le_of_lt (List.getElem?_eq_some_iff.mp hc).1)
  have hl : (C.take n).length = n := by rw [List.length_take]; omega
  have hl2 : (w.io.take n).length = n := by rw [List.length_take, R.len]; omega
  have nin : a ∉ w.io.take n := fun z => by
    obtain ⟨j, hj, e⟩ := List.mem_iff_getElem.mp z
    have e2 : w.io[j]? = some a := by
      rw [← List.getElem?_take_of_lt (show j < n by omega), List.getElem?_eq_getElem hj, e]
    have := nd_ix R.nd e2 ha
    omega
  refine ⟨R.sub, by show (w.io.take n ++ [a]).length = _; simp [hl, hl2], nodup_snoc (R.nd.sublist (List.take_sublist _ _)) nin, fun j b c hb hcj => ?_, R.lk, fun j x e => ?_⟩
  · have hb : (w.io.take n ++ [a])[j]? = some b := hb
    by_cases hj : j < n
    · rw [List.getElem?_append_left (by omega)] at hb hcj
      exact Rc.cell j b c hb hcj
    · have hj2 : j = n := by
        have := (List.getElem?_eq_some_iff.mp hcj).1
        simp [hl] at this; omega
      subst hj2
      rw [List.getElem?_append_right (by omega)] at hb hcj
      simp [hl2] at hb
      simp [hl] at hcj
      subst hb hcj
      exact R.cell m _ _ ha hc
  · obtain ⟨mo, h1, h2⟩ := Rc.kp j x e
    exact ⟨mo, by rw [List.getElem?_append_left (List.getElem?_eq_some_iff.mp h1).1]; exact h1, h2⟩
theorem Ext.keep1 {w w' : Wd} (e : Ext w w') (R : Rel N w C H) (a : Addr) : Ext w { w'.cut C.length with io := w'.io.take C.length ++ [a] } := by
  have c := e.cut R
  obtain ⟨t, q⟩ := c.io
  exact ⟨c.F, ⟨t ++ [a], by show w'.io.take C.length ++ [a] = _; rw [← List.append_assoc, ← q]; rfl⟩, c.L, c.k⟩
theorem Post.fin {σ : L2.St} {W : WX} {k : Bool} {r : R D} {Q : VK} (R : Rel N w C H) (h : Post N w σ W (RelD N) (fin k C.length r) Q) : Post N w σ W (RelD N) r Q := by
  cases r with
  | stuck => exact h
  | ex c fs C' =>
    intro w' H' cls dd e R' x
    exact h (w'.cut C.length) H' cls dd (e.cut R) (R'.cut _) x
  | ok d C' =>
    intro w' H' v e R' rd
    cases d with
    | p x => exact h (w'.cut C.length) H' v (e.cut R) (R'.cut _) rd
    | c m =>
      obtain ⟨a, ha, rfl⟩ := rd
      have h : Post N w σ W (RelD N) (if m < C.length then .ok (.c m) (C'.take C.length) else match C'[m]? with
        | some ⟨.lk, _⟩ => .stuck
        | some ⟨mo, o⟩ => if k then .ok (.c C.length) (C'.take C.length ++ [⟨mo, o⟩]) else .ok (.p o) (C'.take C.length)
        | none => .stuck) Q := h
      by_cases hm : m < C.length
      · rw [if_pos hm] at h
        exact h (w'.cut C.length) H' _ (e.cut R) (R'.cut _) ⟨a, by show (w'.io.take C.length)[m]? = some a; rw [List.getElem?_take_of_lt hm]; exact ha, rfl⟩
      · rw [if_neg hm] at h
        cases hc : C'[m]? with
        | none => rw [hc] at h; exact h.elim
        | some cl =>
          obtain ⟨mo, o⟩ := cl
          rw [hc] at h
          have kept : Post N w σ W (RelD N) (.ok (.c C.length) (C'.take C.length ++ [⟨mo, o⟩])) Q → Q (.ref a) H' := fun h => by
            refine h _ H' _ (e.keep1 R a) (R'.keep1 (Nat.le_of_not_lt hm) ha hc) ⟨a, ?_, rfl⟩
            show (w'.io.take C.length ++ [a])[C.length]? = some a
            have hl : (w'.io.take C.length).length = C.length := by
              rw [List.length_take, R'.len]
              have := (List.getElem?_eq_some_iff.mp hc).1
              omega
            rw [List.getElem?_append_right (by omega), hl]
            simp
          cases mo with
          | lk => exact h.elim
          | mu =>
            cases k with
            | true => exact kept h
            | false =>
              have h : Post N w σ W (RelD N) (.ok (.p o) (C'.take C.length)) Q := h
              obtain ⟨u, ru, R2, e2⟩ := R'.freeze ha hc
              have R3 := R2.cut C.length
              rw [List.take_set_of_le (Nat.le_of_not_lt hm)] at R3
              refine h _ H' _ ((e.trans e2).cut R) R3 ?_
              exact relP_of (F := upd w'.F a u) upd_same (ru.mono (updF_mono (R'.cell m a _ ha hc).1))
          | fz =>
            cases k with
            | true => exact kept h
            | false =>
              have h : Post N w σ W (RelD N) (.ok (.p o) (C'.take C.length)) Q := h
              obtain ⟨u, hu, ru⟩ := R'.cell m a _ ha hc
              exact h _ H' _ (e.cut R) (R'.cut _) (relP_of (F := w'.F) hu ru)
/-- a value frozen -/
theorem Post.fz1 {σ : L2.St} {W : WX} {d : D} {v : V} {α β : Type} {Rl : Wd → α → β → Prop} {kk : P → Cells → FW.R α} {Q : β → Hp → Prop} (R : Rel N w C H) (rd : RelD N w d v) (h : Post N w σ W Rl ((fz1 C d).bnd kk) Q) :
    ∃ w1 C1 x, Ext w w1 ∧ Rel N w1 C1 H ∧ RelP N w1.F x v ∧ Post N w1 σ W Rl (kk x C1) Q ∧ C1.length = C.length := by
  cases d with
  | p x => exact ⟨w, C, x, Ext.refl w, R, rd, h, rfl⟩
  | c n =>
    obtain ⟨a, ha, rfl⟩ := rd
    have h : Post N w σ W Rl ((match C[n]? with
      | some ⟨.mu, o⟩ => FW.R.ok o (C.set n ⟨.fz, o⟩)
      | some ⟨.fz, o⟩ => FW.R.ok o C
      | _ => (FW.R.stuck : FW.R P)).bnd kk) Q := h
    cases hc : C[n]? with
    | none => rw [hc] at h; exact h.elim
    | some cl =>
      obtain ⟨mo, o⟩ := cl
      rw [hc] at h
      cases mo with
      | lk => exact h.elim
      | mu =>
        obtain ⟨u, ru, R2, e2⟩ := R.freeze ha hc
        exact ⟨_, _, o, e2, R2, relP_of (F := upd w.F a u) upd_same (ru.mono (updF_mono (R.cell n a _ ha hc).1)), Post.ext h e2, by simp⟩
      | fz =>
        obtain ⟨u, hu, ru⟩ := R.cell n a _ ha hc
        exact ⟨w, C, o, Ext.refl w, R, relP_of (F := w.F) hu ru, h, rfl⟩
theorem Post.fzs {σ : L2.St} {W : WX} {α β : Type} {Rl : Wd → α → β → Prop} {Q : β → Hp → Prop} : ∀ {ds : List D} {vs : List V} {w : Wd} {C : Cells} {kk : List P → Cells → FW.R α}, Rel N w C H → RelDs N w ds vs → Post N w σ W Rl ((fzs C ds).bnd kk) Q →
    ∃ w1 C1 xs, Ext w w1 ∧ Rel N w1 C1 H ∧ RelPs N w1.F xs vs ∧ Post N w1 σ W Rl (kk xs C1) Q
  | [], [], w, C, kk, R, _, h => ⟨w, C, [], Ext.refl w, R, trivial, h⟩
  | d :: ds, v :: vs, w, C, kk, R, ⟨r1, r2⟩, h => by
    have e : (FW.fzs C (d :: ds)).bnd kk = (FW.fz1 C d).bnd fun x C1 => (FW.fzs C1 ds).bnd fun xs C2 => kk (x :: xs) C2 := by
      show ((FW.fz1 C d).bnd fun x C1 => (FW.fzs C1 ds).bnd fun xs C2 => .ok (x :: xs) C2).bnd kk = _
      cases FW.fz1 C d with
      | ok a C1 =>
        show ((FW.fzs C1 ds).bnd fun xs C2 => .ok (a :: xs) C2).bnd kk = (FW.fzs C1 ds).bnd fun xs C2 => kk (a :: xs) C2
        cases FW.fzs C1 ds <;> rfl
      | ex _ _ _ => rfl
      | stuck => rfl
    rw [e] at h
    obtain ⟨w1, C1, x, e1, R1, rx, h1, _⟩ := Post.fz1 R r1 h
    obtain ⟨w2, C2, xs, e2, R2, rxs, h2⟩ := Post.fzs R1 (r2.mono e1) h1
    exact ⟨w2, C2, x :: xs, e1.trans e2, R2, ⟨RelP.mono e2.F _ _ rx, rxs⟩, h2⟩
  | [], _ :: _, _, _, _, _, h, _ => h.elim
  | _ :: _, [], _, _, _, _, h, _ => h.elim
end
/-! ### the readings -/
def tE (N : Nm) (G : Gm) (e : Ex) (W : WX) : TE := fun σ H Q => ∃ w C τ, Rel N w C H ∧ RelE N w τ σ ∧ Post N w σ W (RelD N) (eval G e τ C) Q
def tAs (N : Nm) (G : Gm) (es : Exs) (W : WX) : TA := fun σ H Q => ∃ w C τ, Rel N w C H ∧ RelE N w τ σ ∧ Post N w σ W (RelDs N) (evals G es τ C) Q
def tTx (N : Nm) (G : Gm) (t : Tx) (W : WX) : TT := fun σ H Q => ∃ w C τ, Rel N w C H ∧ RelE N w τ σ ∧ Post N w σ W (fun _ (a b : Bool) => a = b) (evalT G t τ C) Q
def tTs (N : Nm) (G : Gm) (t : Txs) (W : WX) : TT := fun σ H Q => ∃ w C τ, Rel N w C H ∧ RelE N w τ σ ∧ Post N w σ W (fun _ (a b : Bool) => a = b) (evalC G t τ C) Q
theorem PEimp {X : Cx} {e : Expr} {t t' : TE} (h : PE X e t) (f : ∀ σ H Q, t' σ H Q → t σ H Q) : PE X e t' := ⟨fun pins s σ H Q I q => h.run pins s σ H Q I (f σ H Q q)⟩
theorem PTimp {X : Cx} {e : Expr} {t t' : TT} (h : PT X e t) (f : ∀ σ H Q, t' σ H Q → t σ H Q) : PT X e t' := ⟨fun pins s σ H Q I q => h.run pins s σ H Q I (f σ H Q q)⟩
theorem PAimp {X : Cx} {e : List Expr} {t t' : TA} (h : PA X e t) (f : ∀ σ H Q, t' σ H Q → t σ H Q) : PA X e t' := ⟨fun pos pins s σ H Q I q => h.run pos pins s σ H Q I (f σ H Q q)⟩
section
variable {X : Cx} {N : Nm} {G : Gm} {W : WX} {a b c : Expr} {ea eb ec : Ex} {pos : Pos}
theorem s_var {i : Nat} {x : Str} (hN : X.N[i]? = some x) (hv : Vis X.env.scope x) (hd : (x == ("__debug__" : Str)) = false) (hcd : (x == ("__classdict__" : Str)) = false) : PE X (.Name x pos) (tE N G (.var i) W) :=
  PEimp (pe_var hN hv hd hcd) fun σ H Q ⟨w, C, τ, R, E, h⟩ => by
    have h : Post N w σ W (RelD N) (match τ[i]? with
      | some (some d) => .ok d C
      | _ => .stuck) Q := h
    cases e1 : τ[i]? with
    | none => rw [e1] at h; exact h.elim
    | some o =>
      cases o with
      | none => rw [e1] at h; exact h.elim
      | some d =>
        rw [e1] at h
        obtain ⟨v, q, r⟩ := E.2 i d e1
        exact ⟨v, q, h.done R r⟩
/-- a scalar constant -/
def cV : P → Option V
  | .non => some .non
  | .bl b => some (.bl b)
  | .int i => some (.int i)
  | .str s => some (.str s)
  | _ => none
theorem cV_rel {x : P} {v : V} (h : cV x = some v) {F : Hp} : RelP N F x v := by
  cases x <;> simp only [cV, reduceCtorEq, Option.some.injEq] at h <;> (subst h; rfl)
theorem s_cst {x : P} {v : V} (hv : cV x = some v) (h0 : PE X a (tC v)) : PE X a (tE N G (.cst x) W) :=
  PEimp h0 fun σ H Q ⟨w, C, τ, R, E, h⟩ => h.done R (cV_rel hv)
theorem s_bin (hK : X.K = N.K) {op : Operator} {o : Op} (ho : opOf op = some o) (ha : PE X a (tE N G ea W)) (hb : PE X b (tE N G eb W)) : PE X (.BinOp a op b pos) (tE N G (.bin o ea eb) W) :=
  PEimp (pe_op (u_bin hK ho) ha hb) fun σ H Q ⟨w, C, τ, R, E, h⟩ => ⟨w, C, τ, R, E, h.seq fun w1 C1 x v H1 e1 R1 r1 h1 => ⟨w1, C1, τ, R1, E.mono e1, h1.seq fun w2 C2 y u H2 e2 R2 r2 h2 =>
    ⟨w2, C2, x, y, σ, W, R2, r1.mono e2, r2, h2⟩⟩⟩
theorem s_neg (ha : PE X a (tE N G ea W)) : PE X (.UnaryOp .USub a pos) (tE N G (.neg ea) W) :=
  PEimp (pe_un un_neg ha) fun σ H Q ⟨w, C, τ, R, E, h⟩ => ⟨w, C, τ, R, E, h.seq fun w1 C1 x v H1 e1 R1 r1 h1 => by
    have h1 : Post N w1 σ W (RelD N) (match view C1 x with
      | some (.int i) => .ok (.p (.int (-i))) C1
      | _ => .stuck) Q := h1
    cases e : view C1 x with
    | none => rw [e] at h1; exact h1.elim
    | some p =>
      rw [e] at h1
      have rt := R1.view r1 e
      cases p <;> first | exact h1.elim | skip
      obtain rfl := rt
      exact ⟨_, rfl, h1.done R1 rfl⟩⟩
/-- a comparison's reading, its answer a truth value -/
theorem rC_of {o : COp} {w : Wd} {C : Cells} {x y : D} {v u : V} {H : Hp} {σ : L2.St} {W : WX} {α β : Type} {Rl : Wd → α → β → Prop} {kk : Bool → Cells → FW.R α} {Q : β → Hp → Prop} {Q' : V → Hp → Prop} (R : Rel N w C H) (r1 : RelD N w x v) (r2 : RelD N w y u)
    (h : Post N w σ W Rl (match view C x, view C y with
      | some x, some y => (ofO (cmpP o x y) C).bnd kk
      | _, _ => .stuck) Q) (f : ∀ b, Post N w σ W Rl (kk b C) Q → Q' (.bl b) H) : rC N o v u H Q' := by
  cases e1 : view C x with
  | none => rw [e1] at h; exact h.elim
  | some p =>
    cases e2 : view C y with
    | none => rw [e1, e2] at h; exact h.elim
    | some q =>
      rw [e1, e2] at h
      have h : Post N w σ W Rl ((ofO (cmpP o p q) C).bnd kk) Q := h
      cases e3 : cmpP o p q with
      | none => rw [e3] at h; exact h.elim
      | some t =>
        rw [e3] at h
        exact ⟨w, C, p, q, t, R, R.view r1 e1, R.view r2 e2, e3, f t h⟩
theorem bnd_assoc {α β γ : Type} (r : FW.R α) (f : α → Cells → FW.R β) (g : β → Cells → FW.R γ) : (r.bnd f).bnd g = r.bnd fun a C => (f a C).bnd g := by cases r <;> rfl
theorem ofO_map {α β : Type} (o : Option α) (f : α → β) (C : Cells) : ofO (o.map f) C = (ofO o C).bnd fun a C1 => .ok (f a) C1 := by cases o <;> rfl
theorem s_cmp (hK : X.K = N.K) (hu : X.A.units + 64 < cLine) {op : CmpOp} {o : COp} (ho : cmpOf op = some o) (hm : behindInMarks op b = false) (ha : PE X a (tE N G ea W)) (hb : PE X b (tE N G eb W)) : PE X (.Compare a [op] [b] pos) (tE N G (.cmp o ea eb) W) :=
  PEimp (pe_cmpR (u_cmp hK hu ho) ha hb hm) fun σ H Q ⟨w, C, τ, R, E, h⟩ => ⟨w, C, τ, R, E, h.seq fun w1 C1 x v H1 e1 R1 r1 h1 => ⟨w1, C1, τ, R1, E.mono e1, h1.seq fun w2 C2 y u H2 e2 R2 r2 h2 => by
    simp only [ofO_map] at h2
    exact rC_of (kk := fun b C1 => FW.R.ok (FW.D.p (FW.P.bl b)) C1) R2 (r1.mono e2) r2 h2 fun b h3 => h3.done R2 rfl⟩⟩
theorem s_chn (hK : X.K = N.K) (hu : X.A.units + 64 < cLine) {op op' : CmpOp} {o o' : COp} (ho : cmpOf op = some o) (ho' : cmpOf op' = some o') (hm : lastMarks [op, op'] [b, c] = false) (ha : PE X a (tE N G ea W)) (hb : PE X b (tE N G eb W)) (hc : PE X c (tE N G ec W)) :
    PE X (.Compare a [op, op'] [b, c] pos) (tE N G (.chn o o' ea eb ec) W) :=
  PEimp (pe_chain (u_cmp hK hu ho) (u_cmp hK hu ho') ha hb hc hm) fun σ H Q ⟨w, C, τ, R, E, h⟩ => ⟨w, C, τ, R, E, h.seq fun w1 C1 x v H1 e1 R1 r1 h1 => ⟨w1, C1, τ, R1, E.mono e1, h1.seq fun w2 C2 y u H2 e2 R2 r2 h2 => by
    refine rC_of R2 (r1.mono e2) r2 h2 fun t h3 => ⟨t, rfl, ?_⟩
    cases t with
    | false => exact iteF (h3.done R2 rfl)
    | true =>
      refine iteT ⟨w2, C2, τ, R2, (E.mono e1).mono e2, Post.seq h3 fun w3 C3 z t H3 e3 R3 r3 h4 => ?_⟩
      simp only [ofO_map] at h4
      exact rC_of (kk := fun b C1 => FW.R.ok (FW.D.p (FW.P.bl b)) C1) R3 (r2.mono e3) r3 h4 fun b h5 => h5.done R3 rfl⟩⟩
theorem s_and {rest : List Expr} (ha : PE X a (tE N G ea W)) (hb : PE X (.BoolOp .And (b :: rest) pos) (tE N G eb W)) : PE X (.BoolOp .And (a :: b :: rest) pos) (tE N G (.and ea eb) W) :=
  PEimp (pe_and ha hb) fun σ H Q ⟨w, C, τ, R, E, h⟩ => ⟨w, C, τ, R, E, h.seq fun w1 C1 x v H1 e1 R1 r1 h1 => by
    cases x with
    | c _ => exact h1.elim
    | p x =>
      cases x <;> first | exact h1.elim | skip
      rename_i t
      obtain rfl := r1
      refine ⟨t, rfl, ?_⟩
      cases t with
      | false => exact iteF (h1.done R1 rfl)
      | true => exact iteT ⟨w1, C1, τ, R1, E.mono e1, h1⟩⟩
theorem s_or {rest : List Expr} (ha : PE X a (tE N G ea W)) (hb : PE X (.BoolOp .Or (b :: rest) pos) (tE N G eb W)) : PE X (.BoolOp .Or (a :: b :: rest) pos) (tE N G (.or ea eb) W) :=
  PEimp (pe_or ha hb) fun σ H Q ⟨w, C, τ, R, E, h⟩ => ⟨w, C, τ, R, E, h.seq fun w1 C1 x v H1 e1 R1 r1 h1 => by
    cases x with
    | c _ => exact h1.elim
    | p x =>
      cases x <;> first | exact h1.elim | skip
      rename_i t
      obtain rfl := r1
      refine ⟨t, rfl, ?_⟩
      cases t with
      | true => exact iteT (h1.done R1 rfl)
      | false => exact iteF ⟨w1, C1, τ, R1, E.mono e1, h1⟩⟩
theorem s_not (ha : PE X a (tE N G ea W)) : PE X (.UnaryOp .Not a pos) (tE N G (.not ea) W) :=
  PEimp (pe_not ha) fun σ H Q ⟨w, C, τ, R, E, h⟩ => ⟨w, C, τ, R, E, h.seq fun w1 C1 x v H1 e1 R1 r1 h1 => by
    cases x with
    | c _ => exact h1.elim
    | p x =>
      cases x <;> first | exact h1.elim | skip
      rename_i t
      obtain rfl := r1
      exact ⟨t, rfl, h1.done R1 rfl⟩⟩
theorem s_ite {t : Expr} {et : Tx} (ht : PT X t (tTx N G et W)) (ha : PE X a (tE N G ea W)) (hb : PE X b (tE N G eb W)) : PE X (.IfExp t a b pos) (tE N G (.ite et ea eb) W) :=
  PEimp (pe_ifExp ht ha hb) fun σ H Q ⟨w, C, τ, R, E, h⟩ => ⟨w, C, τ, R, E, h.seq fun w1 C1 x v H1 e1 R1 r1 h1 => by
    subst r1
    cases x with
    | true => exact iteT ⟨w1, C1, τ, R1, E.mono e1, h1⟩
    | false => exact iteF ⟨w1, C1, τ, R1, E.mono e1, h1⟩⟩
/-! ### tests -/
theorem s_tex (hK : X.K = N.K) (he : ∀ whole, isTrue a X.env whole = (do let v ← whole; standAt a.pos; holding [v] (truthy v))) (ha : PE X a (tE N G ea W)) : PT X a (tTx N G (.ex ea) W) := by
  refine ⟨fun pins s σ H Q I ⟨w, C, τ, R, E, h⟩ => ?_⟩
  refine isTrue_plain (thn (ha.run pins s σ H (fun v H1 => ∃ (w : Wd) (C : Cells) (d : D) (σ : L2.St) (W : WX), Rel N w C H1 ∧ RelD N w d v ∧ Post N w σ W (fun _ (a b : Bool) => a = b) (ofO ((view C d).bind truP) C) Q) I ⟨w, C, τ, R, E, h.seq fun w1 C1 x v H1 e1 R1 r1 h1 => ⟨w1, C1, x, σ, W, R1, r1, h1⟩⟩) fun v s1 ⟨x, H1, I1, r1, q1⟩ => ?_) (he _)
  exact u_tru hK pins s1 σ H1 x v Q I1 r1 q1
theorem s_tcmp (hK : X.K = N.K) (hu : X.A.units + 64 < cLine) {op : CmpOp} {o : COp} (ho : cmpOf op = some o) (hm : behindInMarks op b = false) (ha : PE X a (tE N G ea W)) (hb : PE X b (tE N G eb W)) : PT X (.Compare a [op] [b] pos) (tTx N G (.ex (.cmp o ea eb)) W) :=
  PTimp (pt_cmpR (u_cmp hK hu ho) ha hb hm) fun σ H Q ⟨w, C, τ, R, E, h⟩ => by
    have e : evalT G (.ex (.cmp o ea eb)) τ C = (eval G ea τ C).bnd fun x C1 => (eval G eb τ C1).bnd fun y C2 => match view C2 x, view C2 y with
      | some x, some y => (ofO (cmpP o x y) C2).bnd fun b C3 => .ok b C3
      | _, _ => .stuck := by
      show ((eval G ea τ C).bnd fun x C1 => (eval G eb τ C1).bnd fun y C2 => match view C2 x, view C2 y with
        | some x, some y => ofO ((cmpP o x y).map fun b => FW.D.p (FW.P.bl b)) C2
        | _, _ => FW.R.stuck).bnd (fun d C1 => ofO ((view C1 d).bind truP) C1) = _
      rw [bnd_assoc]
      congr 1
      funext x C1
      rw [bnd_assoc]
      congr 1
      funext y C2
      cases view C2 x with
      | none => rfl
      | some x =>
        cases view C2 y with
        | none => rfl
        | some y =>
          show (ofO ((cmpP o x y).map fun b => FW.D.p (FW.P.bl b)) C2).bnd _ = (ofO (cmpP o x y) C2).bnd _
          cases cmpP o x y with
          | none => rfl
          | some b => cases b <;> rfl
    rw [e] at h
    exact ⟨w, C, τ, R, E, h.seq fun w1 C1 x v H1 e1 R1 r1 h1 => ⟨w1, C1, τ, R1, E.mono e1, h1.seq fun w2 C2 y u H2 e2 R2 r2 h2 =>
      rC_of R2 (r1.mono e2) r2 h2 fun b h3 => ⟨b, rfl, h3.done R2 rfl⟩⟩⟩
theorem s_tand {rest : List Expr} {ta tb : Tx} (ha : PT X a (tTx N G ta W)) (hb : PW X (.BoolOp .And (b :: rest) pos) (tTx N G tb W)) : PW X (.BoolOp .And (a :: b :: rest) pos) (tTx N G (.and ta tb) W) :=
  ⟨fun wh pins s σ H Q I ⟨w, C, τ, R, E, h⟩ => (pw_and ha hb).run wh pins s σ H Q I ⟨w, C, τ, R, E, h.seq fun w1 C1 x v H1 e1 R1 r1 h1 => by
    subst r1
    cases x with
    | false => exact iteF (h1.done R1 rfl)
    | true => exact iteT ⟨w1, C1, τ, R1, E.mono e1, h1⟩⟩⟩
theorem s_tor {rest : List Expr} {ta tb : Tx} (ha : PT X a (tTx N G ta W)) (hb : PW X (.BoolOp .Or (b :: rest) pos) (tTx N G tb W)) : PW X (.BoolOp .Or (a :: b :: rest) pos) (tTx N G (.or ta tb) W) :=
  ⟨fun wh pins s σ H Q I ⟨w, C, τ, R, E, h⟩ => (pw_or ha hb).run wh pins s σ H Q I ⟨w, C, τ, R, E, h.seq fun w1 C1 x v H1 e1 R1 r1 h1 => by
    subst r1
    cases x with
    | true => exact iteT (h1.done R1 rfl)
    | false => exact iteF ⟨w1, C1, τ, R1, E.mono e1, h1⟩⟩⟩
theorem s_tnot {ta : Tx} (ha : PT X a (tTx N G ta W)) : PT X (.UnaryOp .Not a pos) (tTx N G (.not ta) W) :=
  PTimp (pt_not ha) fun σ H Q ⟨w, C, τ, R, E, h⟩ => ⟨w, C, τ, R, E, h.seq fun w1 C1 x v H1 e1 R1 r1 h1 => by
    subst r1
    exact h1.done R1 rfl⟩
theorem s_tnil : PTs X [] (tTs N G .nil W) := ⟨fun pins s σ H Q I ⟨w, C, τ, R, E, h⟩ => (pts_nil (X := X)).run pins s σ H Q I (h.done R rfl)⟩
theorem s_tone {ta : Tx} (ha : PT X a (tTx N G ta W)) : PTs X [a] (tTs N G (.cons ta .nil) W) := ⟨fun pins s σ H Q I ⟨w, C, τ, R, E, h⟩ => (pts_one ha).run pins s σ H Q I ⟨w, C, τ, R, E, h.seq fun w1 C1 x v H1 e1 R1 r1 h1 => by
  subst r1
  cases x with
  | true => exact h1.done R1 rfl
  | false => exact h1.done R1 rfl⟩⟩
/-! ### arguments, displays -/
theorem s_anil : PA X [] (tAs N G .nil W) := PAimp pa_nil fun σ H Q ⟨w, C, τ, R, E, h⟩ => h.done (b := []) R trivial
theorem s_acons {es : List Expr} {er : Exs} (hs : starEach (a :: es) X.env = (false, PySem.eval a X.env) :: starEach es X.env) (ha : PE X a (tE N G ea W)) (hr : PA X es (tAs N G er W)) : PA X (a :: es) (tAs N G (.cons ea er) W) :=
  PAimp (pa_cons ha hr hs) fun σ H Q ⟨w, C, τ, R, E, h⟩ => ⟨w, C, τ, R, E, h.seq fun w1 C1 x v H1 e1 R1 r1 h1 => ⟨w1, C1, τ, R1, E.mono e1, h1.seq fun w2 C2 xs vs H2 e2 R2 r2 h2 => h2.done (b := v :: vs) R2 ⟨r1.mono e2, r2⟩⟩⟩
theorem s_tup {es : List Expr} {er : Exs} {x1 : Nat} (h : PA X es (tAs N G er W)) : PE X (.Tuple es x1 pos) (tE N G (.tup er) W) :=
  PEimp (pe_tup h) fun σ H Q ⟨w, C, τ, R, E, h⟩ => ⟨w, C, τ, R, E, h.seq fun w1 C1 ds vs H1 e1 R1 r1 h1 => by
    obtain ⟨w2, C2, xs, e2, R2, r2, h2⟩ := Post.fzs R1 r1 h1
    by_cases hz : xs.length ≤ big
    · rw [if_pos hz] at h2
      exact ⟨by rw [← r2.len, ← big_eq]; exact hz, fin_tup h2 R2 r2⟩
    · rw [if_neg hz] at h2; exact h2.elim⟩
theorem s_lst {es : List Expr} {er : Exs} {k : Bool} (h : PA X es (tAs N G er W)) : PE X (.List es pos) (tE N G (.lst k er) W) :=
  PEimp (pe_lst h) fun σ H Q ⟨w, C, τ, R, E, h⟩ => ⟨w, C, τ, R, E, h.seq fun w1 C1 ds vs H1 e1 R1 r1 h1 => by
    obtain ⟨w2, C2, xs, e2, R2, r2, h2⟩ := Post.fzs R1 r1 h1
    by_cases hz : xs.length ≤ big
    · rw [if_pos hz] at h2
      exact ⟨by rw [← r2.len, ← big_eq]; exact hz, fin_alloc h2 R2 r2⟩
    · rw [if_neg hz] at h2; exact h2.elim⟩
theorem s_idx (hK : X.K = N.K) (hu : X.A.units + 64 < cLine) (hs : PlainIx b) (ha : PE X a (tE N G ea W)) (hb : PE X b (tE N G eb W)) : PE X (.Subscript a b pos) (tE N G (.idx ea eb) W) :=
  PEimp (pe_ix (u_ix hK hu) ha hb hs) fun σ H Q ⟨w, C, τ, R, E, h⟩ => ⟨w, C, τ, R, E, h.seq fun w1 C1 x v H1 e1 R1 r1 h1 => ⟨w1, C1, τ, R1, E.mono e1, h1.seq fun w2 C2 y u H2 e2 R2 r2 h2 =>
    ⟨w2, C2, x, y, σ, W, R2, r1.mono e2, r2, h2⟩⟩⟩
end
end FW

set_option maxRecDepth 100000
set_option maxHeartbeats 2000000
/-! FwD2: calls. -/
namespace FW
open PySem PySem.Spec PyProof.Rows L2
section
variable {X : Cx} {N : Nm} {G : Gm} {W : WX} {a b c e : Expr} {ea eb ec : Ex} {pos p apos : Pos} {es : List Expr} {er : Exs} {x : Str} {f k : Nat}
/-- what a def promises -/
def spC (N : Nm) (call : Nat → List D → Cells → FW.R D) (f : Nat) : Sp := fun vs H Q E => ∃ w C ds, Rel N w C H ∧ RelDs N w ds vs ∧ Post N w [] (fun c d _ H => E c d H) (RelD N) (call f ds C) Q
/-- the def number f stands at a -/
def FnAt (X : Cx) (N : Nm) (call : Nat → List D → Cells → FW.R D) (k : Nat) (a : Addr) (f : Nat) : Prop :=
  ∃ fd ps, FnOk X.prog X.w X.K X.mg X.base (L2.CX X.prog X.w) k a fd ps (spC N call f) ∧ PySem.W.keepIn X.K (.ref a) = true ∧ Binds X.K fd ps []
theorem Post.swap {w : Wd} {σ σ' : L2.St} {W W' : WX} {α β : Type} {Rl : Wd → α → β → Prop} {r : FW.R α} {Q : β → Hp → Prop} (h : Post N w σ W Rl r Q) (f : ∀ c d H, W c d σ H → W' c d σ' H) : Post N w σ' W' Rl r Q := by
  cases r with
  | ok a C => exact h
  | ex c fs C => exact fun w1 H1 b d e R x => f _ _ _ (h w1 H1 b d e R x)
  | stuck => exact h
theorem pe_callS0 {CX : CXT} {fa : Addr} {fd : FuncData} {ps : List Str} {sp : Sp} {E : L2.St → XK} (F : FnOk X.prog X.w X.K X.mg X.base CX k fa fd ps sp) (hr : Room k X.A) (hg : Gl X x) (hm : X.mg x = some (.ref fa)) (hk : PySem.W.keepIn X.K (.ref fa) = true) (hb : Binds X.K fd ps []) (hx : ∀ σ, PassesAt CX X σ (E σ))
    (hdb : (x == ("__debug__" : Str)) = false) : PE X (.Call (.Name x p) [] [] pos) (tCallS sp E tNil) := by
  refine ⟨fun pins s σ H Q I h => ?_⟩
  refine wpAny_Call_Name_kw (ld_glob I hg hm ?_ hdb)
  exact PySem.W.callWith_K0 I.kIn hk (run_fnS F hr hb (hx σ) I .nil h)
/-- no starred argument -/
def notStar : Expr → Bool
  | .Starred _ _ => false
  | _ => true
theorem star_cons {e : Expr} {es : List Expr} {env : PySem.Env} (h : notStar e = true) : starEach (e :: es) env = (false, PySem.eval e env) :: starEach es env := by
  cases e <;> first | rfl | cases h
theorem star_all : ∀ {es : List Expr} {env : PySem.Env}, es.all notStar = true → starEach es env = es.map fun e => (false, PySem.eval e env)
  | [], _, _ => rfl
  | e :: es, env, h => by
    simp only [List.all_cons, Bool.and_eq_true] at h
    rw [star_cons h.1, star_all h.2]
    rfl
theorem star_pl {es : List Expr} {env : PySem.Env} {pos : Pos} (h : es.all notStar = true) : (backTo pos (starEach es env)).any (·.1) = false := by
  rw [star_all h]
  unfold backTo
  rw [List.map_map, List.any_map, List.any_eq_false]
  intro x _
  simp [Function.comp]
/-- f(e, ..), every argument plain -/
theorem s_call {fa : Addr} {kp : Bool} (F : FnAt X N G.call k fa f) (hr : Room k X.A) (tk : Takes X W) (hg : Gl X x) (hm : X.mg x = some (.ref fa)) (hdb : (x == ("__debug__" : Str)) = false) (ha : PA X (e :: es) (tAs N G er W)) (hs : (e :: es).all notStar = true) :
    PE X (.Call (.Name x p) (e :: es) [] pos) (tE N G (.call f kp er) W) := by
  obtain ⟨fd, ps, F, hk, hb⟩ := F
  simp only [List.all_cons, Bool.and_eq_true] at hs
  exact PEimp (pe_callS F hr hg hm hk hb (fun σ => passAt tk σ) ha hdb (star_cons hs.1) (star_pl hs.2)) fun σ H Q ⟨w, C, τ, R, E, h⟩ =>
    ⟨w, C, τ, R, E, h.seq fun w1 C1 ds vs H1 e1 R1 r1 h1 => ⟨w1, C1, ds, R1, r1, (Post.fin R1 h1).swap fun _ _ _ q => q⟩⟩
theorem s_call0 {fa : Addr} {kp : Bool} (F : FnAt X N G.call k fa f) (hr : Room k X.A) (tk : Takes X W) (hg : Gl X x) (hm : X.mg x = some (.ref fa)) (hdb : (x == ("__debug__" : Str)) = false) :
    PE X (.Call (.Name x p) [] [] pos) (tE N G (.call f kp .nil) W) := by
  obtain ⟨fd, ps, F, hk, hb⟩ := F
  exact PEimp (pe_callS0 F hr hg hm hk hb (fun σ => passAt tk σ) hdb) fun σ H Q ⟨w, C, τ, R, E, h⟩ =>
    ⟨w, C, [], R, trivial, (Post.fin (k := kp) R h).swap fun _ _ _ q => q⟩
/-! ### built-ins -/
theorem s_bt (hK : X.K = N.K) (hc : X.calm = true) {bt : Bt} {kp : Bool} (hx : btOf x = some bt) (hg : Gl X x) (hm : X.mg x = none) (ha : PA X (e :: es) (tAs N G er W)) (hs : (e :: es).all notStar = true) :
    PE X (.Call (.Name x p) (e :: es) [] pos) (tE N G (.bt bt kp er) W) := by
  simp only [List.all_cons, Bool.and_eq_true] at hs
  have hx := btOf_ok hx
  subst hx
  obtain ⟨b1, b2, b3⟩ := bt_boot bt
  have u := u_bt (X := X) hK hc bt
  unfold BtR at u
  cases hv : btV bt with
  | builtin n =>
    rw [hv] at u b1
    exact PEimp (pe_callB u hg hm b1 ha b2 b3 (star_cons hs.1) (star_pl hs.2)) fun σ H Q ⟨w, C, τ, R, E, h⟩ =>
      ⟨w, C, τ, R, E, h.seq fun w1 C1 ds vs H1 e1 R1 r1 h1 => ⟨w1, C1, ds, kp, σ, W, R1, r1, h1⟩⟩
  | type n =>
    rw [hv] at u b1
    exact PEimp (pe_callTy u hg hm b1 ha b2 b3 (star_cons hs.1) (star_pl hs.2)) fun σ H Q ⟨w, C, τ, R, E, h⟩ =>
      ⟨w, C, τ, R, E, h.seq fun w1 C1 ds vs H1 e1 R1 r1 h1 => ⟨w1, C1, ds, kp, σ, W, R1, r1, h1⟩⟩
  | _ => cases bt <;> cases hv
/-! ### slices -/
/-- a slice's bound -/
def OpE (X : Cx) (N : Nm) (G : Gm) (W : WX) (o : Option Expr) (eo : Ex) : Prop := match o with
  | none => eo = .cst .non
  | some e => isOff eo = false ∧ PE X e (tE N G eo W)
def tO (N : Nm) (G : Gm) (eo : Ex) (W : WX) : TO := fun σ H Q => ∃ w C τ, Rel N w C H ∧ RelE N w τ σ ∧ Post N w σ W (fun _ (a b : Option Int) => a = b) ((eval G eo τ C).bnd fun d C1 => ofO ((view C1 d).bind (slI eo)) C1) Q
theorem po_e {o : Option Expr} {eo : Ex} (h : OpE X N G W o eo) : PO X o (tO N G eo W) := by
  cases o with
  | none =>
    have h : eo = .cst .non := h
    subst h
    refine ⟨fun pins s σ H Q I ⟨w, C, τ, R, E, q⟩ => po_none.run pins s σ H Q I (Post.done (a := none) (b := none) q R rfl)⟩
  | some e =>
    obtain ⟨ho, h⟩ := h
    refine ⟨fun pins s σ H Q I ⟨w, C, τ, R, E, q⟩ => (po_some h).run pins s σ H Q I ⟨w, C, τ, R, E, q.seq fun w1 C1 x v H1 e1 R1 r1 h1 => ?_⟩⟩
    cases e2 : view C1 x with
    | none => rw [e2] at h1; exact h1.elim
    | some p =>
      rw [e2] at h1
      have rt := R1.view r1 e2
      have e3 : slI eo p = intI p := by unfold slI; rw [ho]; rfl
      have h1 : Post N w1 σ W (fun _ (a b : Option Int) => a = b) (ofO (slI eo p) C1) Q := h1
      rw [e3] at h1
      clear e3 e2
      cases p <;> first | exact h1.elim | skip
      rename_i i _
      obtain rfl := rt
      have z : Q (some i) H1 := Post.done (Rl := fun _ (a b : Option Int) => a = b) (a := some i) (b := some i) (Q := Q) (C := C1) (w := w1) (N := N) (σ := σ) (W := W) h1 R1 rfl
      exact ⟨_, rfl, z⟩
theorem s_slc (hK : X.K = N.K) {kp : Bool} {lo hi : Option Expr} {el eh : Ex} {p2 : Pos} (ha : PE X a (tE N G ea W)) (hl : OpE X N G W lo el) (hh : OpE X N G W hi eh) :
    PE X (.Subscript a (.Slice lo hi none p2) pos) (tE N G (.slc kp ea el eh) W) :=
  PEimp (pe_slice (u_sl hK (k := kp)) ha (po_e hl) (po_e hh)) fun σ H Q ⟨w, C, τ, R, E, h⟩ => ⟨w, C, τ, R, E, h.seq fun w1 C1 x v H1 e1 R1 r1 h1 => by
    rw [← bnd_assoc] at h1
    refine ⟨w1, C1, τ, R1, E.mono e1, h1.seq fun w2 C2 l l' H2 e2 R2 r2 h2 => ?_⟩
    subst r2
    rw [← bnd_assoc] at h2
    refine ⟨w2, C2, τ, R2, (E.mono e1).mono e2, h2.seq fun w3 C3 u u' H3 e3 R3 r3 h3 => ?_⟩
    subst r3
    exact ⟨w3, C3, x, σ, W, R3, (r1.mono e2).mono e3, h3⟩⟩
theorem s_upper (ho : PE X a (tE N G ea W)) (hbase : attributeBase a "upper" X.env (PySem.eval a X.env) = PySem.eval a X.env) (hline : (apos.endLine == pos.line) = true) :
    PE X (.Call (.Attribute a "upper" apos) [] [] pos) (tE N G (.upper ea) W) :=
  PEimp (pe_upper ho hbase hline) fun σ H Q ⟨w, C, τ, R, E, h⟩ => ⟨w, C, τ, R, E, h.seq fun w1 C1 x v H1 e1 R1 r1 h1 => by
    have h1 : Post N w1 σ W (RelD N) (match FW.view C1 x with
      | some (.str s) => if s.length ≤ 5592405 then .ok (.p (.str (Txt.upper s))) C1 else .stuck
      | _ => .stuck) Q := h1
    cases e : FW.view C1 x with
    | none => rw [e] at h1; exact h1.elim
    | some q =>
      rw [e] at h1
      have rt := R1.view r1 e
      cases q <;> first | exact h1.elim | skip
      rename_i s
      obtain rfl := rt
      have h1 : Post N w1 σ W (RelD N) (if s.length ≤ 5592405 then .ok (.p (.str (Txt.upper s))) C1 else .stuck) Q := h1
      by_cases hz : s.length ≤ 5592405
      · rw [if_pos hz] at h1
        exact ⟨⟨_, rfl⟩, s, rfl, rfl, hz, h1.done R1 rfl⟩
      · rw [if_neg hz] at h1; exact h1.elim⟩
/-! ### isinstance -/
def tyS : Ty → String
  | .non => "NoneType"
  | .bl => "bool"
  | .int => "int"
  | .str => "str"
  | .tup => "tuple"
  | .lst => "list"
  | .dct => "dict"
theorem kit_isT (a b : Ty) (K : PySem.W.Frag) : PySem.W.kitOne K (.type (tyS a)) (.type (tyS b)) = some (isT a b) := by
  refine kit_ty ?_
  cases a <;> cases b <;> decide +kernel
/-- the classes' answers -/
def SubOk (K : PySem.W.Frag) (N : Nm) (sub : Nat → Nat → Option Bool) : Prop := ∀ c d b, sub c d = some b → PySem.W.kitOne K (.ref (N.ca c)) (.ref (N.ca d)) = some b ∧ Cls K (N.ca c) ∧ PySem.W.findIn K (.ref (N.ca c)) "__class__" = some (some (.builtin "object.__class__")) ∧
  PySem.W.specialIn K (.builtin "object.__class__") "__get__" = some (some (.builtin "getset_descriptor.__get__")) ∧ PySem.W.takesIn K (.builtin "object.__class__") = some true ∧ PySem.W.mroIn K (N.ca c) (.type "object") = some true
def kdV (N : Nm) : Kd → Value
  | .ty t => .type (tyS t)
  | .own c => .ref (N.ca c)
def tyV (N : Nm) : P → Value
  | .obj c _ => .ref (N.ca c)
  | x => match tyP x with
    | some t => .type (tyS t)
    | none => .none
theorem kit_ok {K : PySem.W.Frag} {sub : Nat → Nat → Option Bool} (S : SubOk K N sub) {x : P} {kd : Kd} {b : Bool} (h : isP sub x kd = some b) : PySem.W.kitOne K (tyV N x) (kdV N kd) = some b := by
  cases kd with
  | own d =>
    cases x <;> first | (cases h; done) | skip
    exact (S _ _ _ h).1
  | ty t =>
    have h : (tyP x).map (fun u => isT u t) = some b := h
    cases x <;> first
      | (cases h; done)
      | (cases h; exact kit_isT _ _ K)
theorem ty_ok {K : PySem.W.Frag} (hK : K = N.K) {w : Wd} {C : Cells} {H : Hp} (R : Rel N w C H) {sub : Nat → Nat → Option Bool} (S : SubOk K N sub) {x : P} {v : V} {kd : Kd} {b : Bool} (r : RelT N w H x v) (h : isP sub x kd = some b) : TyX K H v (tyV N x) := by
  have nk : ∀ t : Ty, tyP x = some t → tyV N x = .type (tyS t) := fun t e => by
    unfold tyV
    cases x <;> first | (cases e; done) | (cases e; rfl)
  cases x with
  | non => cases r; exact .base .non
  | bl b => cases r; exact .base (.bl b)
  | int i => cases r; exact .base (.int i)
  | str s => cases r; exact .base (.str s)
  | tup l => obtain ⟨a, vs, rfl, ha, _⟩ := r; exact .base (.tup (R.tupH ha))
  | lst l => obtain ⟨a, vs, rfl, ha, _⟩ := r; exact .base (.lst ha)
  | scr l =>
    obtain ⟨a, vs, rfl, ha, _⟩ := r
    rw [hK]
    rcases ha with (ha | ⟨o, ha⟩) | ⟨o, its, n, ha, hc, _⟩
    · exact .base (.lst ha)
    · exact .base (.frz ha)
    · exact .kList ha hc
  | dct l =>
    obtain ⟨a, vs, rfl, ha | ⟨o, ha⟩, _⟩ := r
    · exact .base (.dK ha)
    · exact .fDict ha
  | obj c l =>
    obtain ⟨a, dx, fs, rfl, ha, _⟩ := r
    cases kd with
    | ty t => cases h
    | own d =>
      obtain ⟨_, cl, h1, h2, h3, h4⟩ := S c d b h
      exact .base (.ins ha cl h1 h2 h3 h4)
  | cls c => cases kd <;> cases h
  | dcT l => cases kd <;> cases h
theorem kitAny_ok {K : PySem.W.Frag} {sub : Nat → Nat → Option Bool} (S : SubOk K N sub) {x : P} : ∀ {ks : List Kd} {b : Bool}, isAny sub x ks = some b → PySem.W.kitAny K (tyV N x) (ks.map (kdV N)) = some b
  | [], b, h => by cases h; exact kitAny_nil
  | kd :: ks, b, h => by
    have h : (match isP sub x kd with
      | some true => some true
      | some false => isAny sub x ks
      | none => none) = some b := h
    cases e : isP sub x kd with
    | none => rw [e] at h; cases h
    | some t =>
      rw [e] at h
      cases t with
      | true => cases h; exact kitAny_cons (kit_ok S e) (fun z => by cases z) (fun _ => rfl)
      | false => exact kitAny_cons (kit_ok S e) (fun _ => kitAny_ok S h) (fun z => by cases z)
/-- the written class -/
def KdE (X : Cx) (N : Nm) (e : Expr) (kd : Kd) : Prop := ∃ v, PE X e (tC v) ∧ ClsV v (kdV N kd)
theorem isAny_open {sub : Nat → Nat → Option Bool} {x : P} {kd : Kd} {ks : List Kd} {b : Bool} (h : isAny sub x (kd :: ks) = some b) : ∃ t, isP sub x kd = some t := by
  have h : (match isP sub x kd with
    | some true => some true
    | some false => isAny sub x ks
    | none => none) = some b := h
  cases e : isP sub x kd with
  | none => rw [e] at h; cases h
  | some t => exact ⟨t, rfl⟩
theorem s_isi1 (hK : X.K = N.K) (hg : Gl X "isinstance") (hm : X.mg "isinstance" = none) (S : SubOk X.K N G.sub) {kd : Kd} (ha : PE X a (tE N G ea W)) (hk : KdE X N b kd) (hs : [a, b].all notStar = true) :
    PE X (.Call (.Name "isinstance" p) [a, b] [] pos) (tE N G (.isi ea [kd]) W) := by
  obtain ⟨v, hb, hc⟩ := hk
  simp only [List.all_cons, Bool.and_eq_true, List.all_nil, and_true] at hs
  have hs2 : [b].all notStar = true := by simp [hs.2]
  exact PEimp (pe_callB call_isi hg hm (by decide +kernel) (pa_cons ha (pa_cons hb pa_nil (star_cons hs.2)) (star_cons hs.1)) (by decide) (by decide) (star_cons hs.1) (star_pl hs2)) fun σ H Q ⟨w, C, τ, R, E, h⟩ =>
    ⟨w, C, τ, R, E, h.seq fun w1 C1 x u H1 e1 R1 r1 h1 => by
      have h1 : Post N w1 σ W (RelD N) (match FW.view C1 x with
        | some x => ofO ((isAny G.sub x [kd]).map fun b => D.p (P.bl b)) C1
        | none => .stuck) Q := h1
      cases e : FW.view C1 x with
      | none => rw [e] at h1; exact h1.elim
      | some q =>
        rw [e] at h1
        have h1 : Post N w1 σ W (RelD N) (ofO ((isAny G.sub q [kd]).map fun b => D.p (P.bl b)) C1) Q := h1
        cases e2 : isAny G.sub q [kd] with
        | none => rw [e2] at h1; exact h1.elim
        | some t =>
          rw [e2] at h1
          obtain ⟨t', e3⟩ := isAny_open e2
          have e4 : t' = t := by
            have e2 : (match isP G.sub q kd with
              | some true => some true
              | some false => isAny G.sub q []
              | none => none) = some t := e2
            rw [e3] at e2
            cases t' <;> cases e2 <;> rfl
          subst e4
          exact ⟨u, v, _, _, t', rfl, hc, ty_ok hK R1 S (R1.view r1 e) e3, kit_ok S e3, h1.done R1 rfl⟩⟩
/-- written classes in a tuple -/
def KdEs (X : Cx) (N : Nm) : List Expr → List Kd → Prop
  | [], [] => True
  | e :: es, kd :: ks => KdE X N e kd ∧ notStar e = true ∧ KdEs X N es ks
  | _, _ => False
theorem kdEs_ok : ∀ {es : List Expr} {ks : List Kd}, KdEs X N es ks → ∃ vs, PA X es (fun _ H Q => Q vs H) ∧ Paired ClsV vs (ks.map (kdV N))
  | [], [], _ => ⟨[], pa_nil, .nil⟩
  | e :: es, kd :: ks, ⟨⟨v, h, c⟩, s, r⟩ => by
    obtain ⟨vs, h2, c2⟩ := kdEs_ok r
    exact ⟨v :: vs, pa_cons h h2 (star_cons s), .cons c c2⟩
  | [], _ :: _, h => h.elim
  | _ :: _, [], h => h.elim
theorem kdEs_len : ∀ {es : List Expr} {ks : List Kd}, KdEs X N es ks → es.length = ks.length
  | [], [], _ => rfl
  | e :: es, kd :: ks, ⟨_, _, r⟩ => congrArg (· + 1) (kdEs_len r)
  | [], _ :: _, h => h.elim
  | _ :: _, [], h => h.elim
theorem s_isiT (hK : X.K = N.K) (hg : Gl X "isinstance") (hm : X.mg "isinstance" = none) (S : SubOk X.K N G.sub) {kd : Kd} {ks : List Kd} {ctx : Nat} {p2 : Pos} (ha : PE X a (tE N G ea W)) (hk : KdEs X N es (kd :: ks)) (hl : es.length ≤ 1000) (hs : notStar a = true) :
    PE X (.Call (.Name "isinstance" p) [a, .Tuple es ctx p2] [] pos) (tE N G (.isi ea (kd :: ks)) W) := by
  obtain ⟨vs, hb, hc⟩ := kdEs_ok hk
  have hlen : vs.length ≤ sizeLine := by
    have h1 : vs.length = ((kd :: ks).map (kdV N)).length := Paired.length hc
    have h2 := kdEs_len hk
    rw [List.length_map] at h1
    rw [sizeLine_eq]; omega
  exact PEimp (pe_callB call_isiT hg hm (by decide +kernel) (pa_cons ha (pa_cons (pe_tup hb) pa_nil rfl) (star_cons hs)) (by decide) (by decide) (star_cons hs) rfl) fun σ H Q ⟨w, C, τ, R, E, h⟩ =>
    ⟨w, C, τ, R, E, h.seq fun w1 C1 x u H1 e1 R1 r1 h1 => ⟨hlen, fun tp htp => by
      have h1 : Post N w1 σ W (RelD N) (match FW.view C1 x with
        | some x => ofO ((isAny G.sub x (kd :: ks)).map fun b => D.p (P.bl b)) C1
        | none => .stuck) Q := h1
      cases e : FW.view C1 x with
      | none => rw [e] at h1; exact h1.elim
      | some q =>
        rw [e] at h1
        have h1 : Post N w1 σ W (RelD N) (ofO ((isAny G.sub q (kd :: ks)).map fun b => D.p (P.bl b)) C1) Q := h1
        cases e2 : isAny G.sub q (kd :: ks) with
        | none => rw [e2] at h1; exact h1.elim
        | some t =>
          rw [e2] at h1
          obtain ⟨t', e3⟩ := isAny_open e2
          have R2 := R1.junk (.tup vs) htp
          exact ⟨u, tp, vs, _, _, t, rfl, upd_same, hc, ty_ok hK R2 S (R2.view r1 e) e3, kitAny_ok S e2, Post.done h1 R2 rfl⟩⟩⟩
end
end FW

set_option maxRecDepth 100000
set_option maxHeartbeats 2000000
/-! FwD3: calls of methods that are functions of a class. -/
namespace FW
open PySem PySem.Spec PyProof.Rows L2
/-- no call of super or the like -/
def notC0 : Expr → Bool
  | .Call (.Name _ _) [] [] _ => false
  | _ => true
theorem abase {o : Expr} (h : notC0 o = true) (m : Str) (env : PySem.Env) (w : Sem Value) : attributeBase o m env w = w := by
  unfold attributeBase
  split
  · cases h
  · rfl
theorem ev_mcall {o : Expr} {m : Str} {apos pos : Pos} {es : List Expr} {env : PySem.Env} (hb : notC0 o = true) (hs : es.all notStar = true) (hn : es.length < 30) (hl : (apos.endLine == pos.line) = true) :
    PySem.eval (.Call (.Attribute o m apos) es [] pos) env = (do
      let ov ← PySem.eval o env
      standAt apos.atName
      let (f, first) ← holding [ov] (getMethod ov m (plainOf o env))
      callWith pos f first (backTo pos (starEach es env)) (backToKw pos (keywordEach [] env))) := by
  have hf : methodCallForm (es.length + 0) (backTo pos (starEach es env)) (backToKw pos (keywordEach [] env)) = true := by
    unfold methodCallForm
    have h1 : (backTo pos (starEach es env)).all (!·.1) = true := by
      rw [star_all hs]
      unfold backTo
      rw [List.map_map, List.all_map, List.all_eq_true]
      intro x _
      rfl
    rw [h1]
    show (true && true && decide (es.length + 0 + 0 < 30)) = true
    simp [hn]
  show (do
    let ov ← attributeBase o m env (PySem.eval o env)
    standAt apos.atName
    methodCall o m apos pos env ov (es.length + 0) (backTo pos (starEach es env)) (backToKw pos (keywordEach [] env))) = _
  rw [abase hb]
  congr 1
  funext ov
  congr 1
  funext _
  exact mcall_line hf hl
section
variable {X : Cx} {N : Nm} {G : Gm} {W : WX} {a b c e : Expr} {ea eb ec : Ex} {pos p apos : Pos} {es : List Expr} {er : Exs} {x m : Str} {f k : Nat}
/-- a static method of the class at C: its def at g -/
structure SMet (K : PySem.W.Frag) (C : Addr) (m : Str) (g : Addr) : Prop where
  ex : ∃ mc p rest, ClX.CRead K C mc ∧ PySem.W.findCls K (.ref C) mc m = some (.get (.builtin "staticmethod.__get__") (.ref p) .none (.ref C)) ∧ PySem.W.recIn K p "staticmethod" = some (.ref g :: rest)
theorem getsm_ok {C g : Addr} {A : Around} {E : Value → Shared → Prop} {pins : List (Addr × Obj)} {σ : L2.St} {H : Hp} {s : Shared} {pl : Sem Bool} {Q : Value × List Value → Shared → Prop} (I : Inv X pins σ H s) (r : SMet X.K C m g)
    (h : ∀ s', Inv X pins σ H s' → Q (.ref g, []) s') : wpAny (model X.prog X.w) A (getMethod (.ref C) m pl) Q E s := by
  obtain ⟨mc, p, rest, cr, h1, h2⟩ := r.ex
  exact PySem.W.method_cls I.kIn cr.ga (PySem.W.cls_bind I.kIn cr.rd h1 (wpAny_call (PySem.W.sm_get (s := { s with toks := s.toks + 1 }) I.kIn h2 (PySem.W.handed_on rfl (h _ (I.tok _))))))
theorem s_stat {C fa : Addr} {kp : Bool} {cn mn : Nat} (F : FnAt X N G.call k fa f) (hlk : G.look cn mn = some (.stat f)) (hr : Room k X.A) (tk : Takes X W) (hg : Gl X x) (hm : X.mg x = some (.ref C)) (hsm : SMet X.K C m fa) (hdb : (x == ("__debug__" : Str)) = false)
    (ha : PA X (e :: es) (tAs N G er W)) (hs : (e :: es).all notStar = true) (hn : (e :: es).length < 30) (hl : (apos.endLine == pos.line) = true) :
    PE X (.Call (.Attribute (.Name x p) m apos) (e :: es) [] pos) (tE N G (.stat cn mn kp er) W) := by
  obtain ⟨fd, ps, F, hk, hb⟩ := F
  have hs' := hs
  simp only [List.all_cons, Bool.and_eq_true] at hs'
  refine ⟨fun pins s σ H Q I ⟨w, C1, τ, R, E, h⟩ => ?_⟩
  refine PySem.W.methodCall_KW (pl := plainOf (.Name x p) X.env) ?_ (ev_mcall rfl hs hn hl)
  refine ld_glob I hg hm ?_ hdb
  refine getsm_ok I hsm fun s1 I1 => ?_
  have z := ha.run pos pins s1 σ H (fun vs H1 => spC N G.call f vs H1 Q (WE W σ)) I1 ⟨w, C1, τ, R, E, h.seq fun w1 C1 ds vs H1 e1 R1 r1 h1 => by
    have h1 : Post N w1 σ W (RelD N) (match G.look cn mn with
      | some (.stat f) => fin kp C1.length (G.call f ds C1)
      | _ => .stuck) Q := h1
    rw [hlk] at h1
    exact ⟨w1, C1, ds, R1, r1, (Post.fin R1 h1).swap fun _ _ _ q => q⟩⟩
  refine PySem.W.callWith_K (first := []) (h₀ := X.base) I.ok.mod.kin hk (thn z fun us s2 ⟨vs, H2, I2, r, q2⟩ => ⟨I2.kIn, ?_⟩) (star_cons hs'.1) (star_pl hs'.2)
  exact run_fnS F hr hb (passAt tk σ) I2 r q2
end
end FW

set_option maxRecDepth 100000
set_option maxHeartbeats 2000000
/-! FwE1: what is walked: locks, items. -/
namespace FW
open PySem PySem.Spec PyProof.Rows L2
section
variable {N : Nm} {w : Wd} {C : Cells} {H : Hp}
theorem Rel.lk1 (R : Rel N w C H) {n : Nat} {o : P} (hc : C[n]? = some ⟨.mu, o⟩) : Rel N w (C.set n ⟨.lk, o⟩) H := by
  have hl := (List.getElem?_eq_some_iff.mp hc).1
  refine ⟨R.sub, by simpa using R.len, R.nd, fun m b cl hb hm => ?_, R.lk, fun m x e => ?_⟩
  · by_cases q : m = n
    · subst q
      rw [List.getElem?_set_self hl] at hm
      cases hm
      obtain ⟨h1, h2, u, h3, h4⟩ := R.cell m b _ hb hc
      exact ⟨h1, u, .inl ⟨h2, h3⟩, h4⟩
    · rw [List.getElem?_set_ne (Ne.symm q)] at hm
      exact R.cell m b cl hb hm
  · obtain ⟨mo, h1, h2⟩ := R.kp m x e
    have ne : m ≠ n := fun z => by rw [z, hc] at h1; cases h1; exact h2 rfl
    exact ⟨mo, by rw [List.getElem?_set_ne (Ne.symm ne)]; exact h1, h2⟩
theorem Rel.unlk1 (R : Rel N w C H) {n : Nat} {l : List P} (hc : C[n]? = some ⟨.lk, .lst l⟩) (hk : w.k n = none) : Rel N w (C.set n ⟨.mu, .lst l⟩) H := by
  have hl := (List.getElem?_eq_some_iff.mp hc).1
  refine ⟨R.sub, by simpa using R.len, R.nd, fun m b cl hb hm => ?_, R.lk, fun m x e => ?_⟩
  · by_cases q : m = n
    · subst q
      rw [List.getElem?_set_self hl] at hm
      cases hm
      obtain ⟨h1, u, h3, h4⟩ := R.cell m b _ hb hc
      have hd : isD u = false := by cases u <;> first | rfl | exact (show False from h4).elim
      have h5 := R.nd_at h3 hd
      exact ⟨h1, h5.1, u, h5.2, h4⟩
    · rw [List.getElem?_set_ne (Ne.symm q)] at hm
      exact R.cell m b cl hb hm
  · have ne : m ≠ n := fun z => by rw [z, hk] at e; cases e
    obtain ⟨mo, h1, h2⟩ := R.kp m x e
    exact ⟨mo, by rw [List.getElem?_set_ne (Ne.symm ne)]; exact h1, h2⟩
/-- a value's reading stays -/
def Kept (w : Wd) (d : FW.D) (x : P) : Prop := match d with
  | .p y => y = x
  | .c n => w.k n = some x
theorem Kept.view {w w' : Wd} {C' : Cells} {H' : Hp} {d : FW.D} {x : P} (k : Kept w d x) (e : Ext w w') (R : Rel N w' C' H') : FW.view C' d = some x := by
  cases d with
  | p y => cases (show y = x from k); rfl
  | c n =>
    obtain ⟨mo, h, _⟩ := R.kp n x (e.k n x k)
    show (C'[n]?).map (·.ob) = some x
    rw [h]; rfl
theorem lockL_c (n : Nat) (r : List FW.D) (C : Cells) : lockL (.c n :: r) C = match C[n]? with
  | some ⟨.mu, o⟩ => ((lockL r (C.set n ⟨.lk, o⟩)).1, n :: (lockL r (C.set n ⟨.lk, o⟩)).2)
  | _ => lockL r C := rfl
/-- the cells behind the lock -/
theorem lockL_get : ∀ (ds : List FW.D) (C : Cells) (m : Nat), (∀ mo o, C[m]? = some ⟨mo, o⟩ → ∃ mo', (lockL ds C).1[m]? = some ⟨mo', o⟩ ∧ (mo ≠ .mu → mo' ≠ .mu) ∧ (FW.D.c m ∈ ds → mo' ≠ .mu)) ∧ (m ∈ (lockL ds C).2 → ∃ o, C[m]? = some ⟨.mu, o⟩ ∧ FW.D.c m ∈ ds)
  | [], C, m => ⟨fun mo o h => ⟨mo, h, id, fun z => by simp at z⟩, fun z => by simp [lockL] at z⟩
  | .p x :: r, C, m => by
    rw [lockL_p]
    obtain ⟨h1, h2⟩ := lockL_get r C m
    exact ⟨fun mo o h => let ⟨mo', a, b, c⟩ := h1 mo o h; ⟨mo', a, b, fun z => c (by simpa using z)⟩, fun z => let ⟨o, a, b⟩ := h2 z; ⟨o, a, List.mem_cons_of_mem _ b⟩⟩
  | .c n :: r, C, m => by
    rw [lockL_c]
    have other : (∀ o, C[n]? ≠ some ⟨.mu, o⟩) → (∀ mo o, C[m]? = some ⟨mo, o⟩ → ∃ mo', (lockL r C).1[m]? = some ⟨mo', o⟩ ∧ (mo ≠ .mu → mo' ≠ .mu) ∧ (FW.D.c m ∈ FW.D.c n :: r → mo' ≠ .mu)) ∧ (m ∈ (lockL r C).2 → ∃ o, C[m]? = some ⟨.mu, o⟩ ∧ FW.D.c m ∈ FW.D.c n :: r) := fun hn => by
      obtain ⟨h1, h2⟩ := lockL_get r C m
      refine ⟨fun mo o h => ?_, fun z => let ⟨o, a, b⟩ := h2 z; ⟨o, a, List.mem_cons_of_mem _ b⟩⟩
      obtain ⟨mo', a, b, c⟩ := h1 mo o h
      refine ⟨mo', a, b, fun z => ?_⟩
      rcases List.mem_cons.mp z with q | q
      · cases q
        exact b (fun e => hn o (by rw [h, e]))
      · exact c q
    cases hc : C[n]? with
    | none => exact other fun o h => by rw [hc] at h; cases h
    | some cl =>
      obtain ⟨mo, o⟩ := cl
      cases mo with
      | lk => exact other fun o h => by rw [hc] at h; cases h
      | fz => exact other fun o h => by rw [hc] at h; cases h
      | mu =>
        have hl := (List.getElem?_eq_some_iff.mp hc).1
        obtain ⟨h1, h2⟩ := lockL_get r (C.set n ⟨.lk, o⟩) m
        refine ⟨fun mo' o' h => ?_, fun z => ?_⟩
        · by_cases q : m = n
          · subst q
            rw [hc] at h; cases h
            obtain ⟨mo2, a, b, _⟩ := h1 .lk o (by rw [List.getElem?_set_self hl])
            exact ⟨mo2, a, fun z => absurd rfl z, fun _ => b (fun z => by cases z)⟩
          · obtain ⟨mo2, a, b, c⟩ := h1 mo' o' (by rw [List.getElem?_set_ne (Ne.symm q)]; exact h)
            exact ⟨mo2, a, b, fun z => by
              rcases List.mem_cons.mp z with q2 | q2
              · cases q2; exact absurd rfl q
              · exact c q2⟩
        · rcases List.mem_cons.mp (show m ∈ n :: (lockL r (C.set n ⟨.lk, o⟩)).2 from z) with q | q
          · subst q; exact ⟨o, hc, List.mem_cons_self⟩
          · obtain ⟨o', a, b⟩ := h2 q
            by_cases q2 : m = n
            · subst q2; rw [List.getElem?_set_self hl] at a; cases a
            · rw [List.getElem?_set_ne (Ne.symm q2)] at a
              exact ⟨o', a, List.mem_cons_of_mem _ b⟩
theorem lockL_len : ∀ (ds : List FW.D) (C : Cells), (lockL ds C).1.length = C.length
  | [], C => rfl
  | .p x :: r, C => lockL_len r C
  | .c n :: r, C => by
    rw [lockL_c]
    cases hc : C[n]? with
    | none => exact lockL_len r C
    | some cl =>
      obtain ⟨mo, o⟩ := cl
      cases mo with
      | mu => show (lockL r (C.set n ⟨.lk, o⟩)).1.length = _; rw [lockL_len, List.length_set]
      | lk => exact lockL_len r C
      | fz => exact lockL_len r C
theorem Rel.lockR : ∀ (ds : List FW.D) {C : Cells}, Rel N w C H → Rel N w (lockL ds C).1 H
  | [], C, R => R
  | .p x :: r, C, R => Rel.lockR r R
  | .c n :: r, C, R => by
    rw [lockL_c]
    cases hc : C[n]? with
    | none => exact Rel.lockR r R
    | some cl =>
      obtain ⟨mo, o⟩ := cl
      cases mo with
      | mu => exact Rel.lockR r (R.lk1 hc)
      | lk => exact Rel.lockR r R
      | fz => exact Rel.lockR r R
def ixs : List FW.D → List Nat
  | [] => []
  | .p _ :: r => ixs r
  | .c n :: r => n :: ixs r
theorem mem_ixs {n : Nat} : ∀ {ds : List FW.D}, n ∈ ixs ds ↔ FW.D.c n ∈ ds
  | [] => by simp [ixs]
  | .p x :: r => by simp [ixs, mem_ixs (ds := r)]
  | .c m :: r => by simp [ixs, mem_ixs (ds := r)]
theorem Rel.lock (R : Rel N w C H) (ds : List FW.D) : ∃ w1, Ext w w1 ∧ Rel N w1 (lockL ds C).1 H ∧ ∀ d ∈ ds, ∀ x, FW.view C d = some x → Kept w1 d x := by
  have R1 := Rel.lockR ds R
  refine ⟨{ w with k := fun n => match w.k n with
    | some o => some o
    | none => if n ∈ ixs ds then (C[n]?).map (·.ob) else none }, ⟨fun _ _ h => h, ⟨[], (List.append_nil _).symm⟩, fun _ _ h => h, fun n o h => ?_⟩, ⟨R1.sub, R1.len, R1.nd, R1.cell, R1.lk, fun n o h => ?_⟩, fun d hd x hx => ?_⟩
  · show (match w.k n with
      | some o => some o
      | none => if n ∈ ixs ds then (C[n]?).map (·.ob) else none) = some o
    rw [h]
  · have h : (match w.k n with
      | some o => some o
      | none => if n ∈ ixs ds then (C[n]?).map (·.ob) else none) = some o := h
    cases e : w.k n with
    | some o' =>
      rw [e] at h; cases h
      obtain ⟨mo, h1, h2⟩ := R.kp n o e
      obtain ⟨mo', a, b, _⟩ := (lockL_get ds C n).1 mo o h1
      exact ⟨mo', a, b h2⟩
    | none =>
      rw [e] at h
      by_cases q : n ∈ ixs ds
      · have h : (if n ∈ ixs ds then (C[n]?).map (·.ob) else none) = some o := h
        rw [if_pos q] at h
        cases hc : C[n]? with
        | none => rw [hc] at h; cases h
        | some cl =>
          obtain ⟨mo, o'⟩ := cl
          rw [hc] at h; cases h
          obtain ⟨mo', a, _, c⟩ := (lockL_get ds C n).1 mo _ hc
          exact ⟨mo', a, c (mem_ixs.mp q)⟩
      · have h : (if n ∈ ixs ds then (C[n]?).map (·.ob) else none) = some o := h
        rw [if_neg q] at h; cases h
  · cases d with
    | p y => exact Option.some.inj hx
    | c n =>
      show (match w.k n with
        | some o => some o
        | none => if n ∈ ixs ds then (C[n]?).map (·.ob) else none) = some x
      cases e : w.k n with
      | some o =>
        obtain ⟨mo, h1, _⟩ := R.kp n o e
        have hx : (C[n]?).map (·.ob) = some x := hx
        rw [h1] at hx; exact hx
      | none => rw [if_pos (mem_ixs.mpr hd)]; exact hx
theorem unlkL_c (n : Nat) (r : List Nat) (C : Cells) : unlkL (n :: r) C = unlkL r (match C[n]? with
  | some ⟨.lk, o⟩ => C.set n ⟨.mu, o⟩
  | _ => C) := rfl
theorem Rel.unlkR : ∀ (ns : List Nat) {C : Cells}, Rel N w C H → (∀ n ∈ ns, w.k n = none ∧ ∃ mo l, C[n]? = some ⟨mo, .lst l⟩) → Rel N w (unlkL ns C) H
  | [], C, R, _ => R
  | n :: r, C, R, h => by
    rw [unlkL_c]
    obtain ⟨hk, mo, l, hc⟩ := h n List.mem_cons_self
    rw [hc]
    have rest := fun m hm => h m (List.mem_cons_of_mem n hm)
    cases mo with
    | lk =>
      refine Rel.unlkR r (R.unlk1 hc hk) fun m hm => ?_
      obtain ⟨h1, mo', l', h2⟩ := rest m hm
      by_cases q : m = n
      · subst q
        exact ⟨h1, .mu, l, by rw [List.getElem?_set_self (List.getElem?_eq_some_iff.mp hc).1]⟩
      · exact ⟨h1, mo', l', by rw [List.getElem?_set_ne (Ne.symm q)]; exact h2⟩
    | mu => exact Rel.unlkR r R rest
    | fz => exact Rel.unlkR r R rest
theorem unlkL_len : ∀ (ns : List Nat) (C : Cells), (unlkL ns C).length = C.length
  | [], C => rfl
  | n :: r, C => by
    rw [unlkL_c, unlkL_len]
    split
    · rw [List.length_set]
    · rfl
theorem Rel.unlock (R : Rel N w C H) {ds : List FW.D} (hl : ∀ n, FW.D.c n ∈ ds → ∃ l, FW.view C (.c n) = some (.lst l)) {w1 : Wd} (e1 : Ext w w1) (h1 : ∀ d ∈ ds, ∀ x, FW.view C d = some x → Kept w1 d x) {w2 : Wd} {C2 : Cells} {H2 : Hp} (e : Ext w1 w2) (R2 : Rel N w2 C2 H2) :
    Rel N { w2 with k := w.k } (unlkL (lockL ds C).2 C2) H2 ∧ Ext w { w2 with k := w.k } := by
  have e2 := e1.trans e
  refine ⟨Rel.unlkR _ ⟨R2.sub, R2.len, R2.nd, R2.cell, R2.lk, fun n o h => R2.kp n o (e2.k n o h)⟩ fun n hn => ?_, ⟨e2.F, e2.io, e2.L, fun _ _ h => h⟩⟩
  obtain ⟨o, h2, h3⟩ := (lockL_get ds C n).2 hn
  constructor
  · show w.k n = none
    cases q : w.k n with
    | none => rfl
    | some o' =>
      obtain ⟨mo, h4, h5⟩ := R.kp n o' q
      rw [h2] at h4; cases h4; exact absurd rfl h5
  · obtain ⟨l, h4⟩ := hl n h3
    obtain ⟨mo, h5, _⟩ := R2.kp n _ (e.k n _ (h1 _ h3 _ h4))
    exact ⟨mo, l, h5⟩
end
end FW

set_option maxRecDepth 100000
set_option maxHeartbeats 2000000
/-! FwE2: what iterators give. -/
namespace FW
open PySem PySem.Spec PyProof.Rows L2
theorem RelPs.getV {N : Nm} {F : Hp} : ∀ {l : List P} {vs : List V} {i : Nat} {v : V}, RelPs N F l vs → vs[i]? = some v → ∃ x, l[i]? = some x ∧ RelP N F x v
  | _ :: _, _ :: _, 0, v, ⟨a, _⟩, e => ⟨_, rfl, by have e : _ = v := Option.some.inj e; subst e; exact a⟩
  | _ :: _, _ :: _, i + 1, v, ⟨_, b⟩, e => RelPs.getV (i := i) b e
  | _, [], i, v, _, e => by simp at e
  | [], _ :: _, _, _, h, _ => h.elim
/-- what an iterator gives, in turn -/
def ItR (N : Nm) (w : Wd) (J : It) (xs : List P) : Prop := ∃ (G : Hp → Prop) (Y : Nat → Hp → V → Hp → Prop), Walk J xs.length G Y ∧ (∀ w' C' H', Ext w w' → Rel N w' C' H' → G H') ∧
  ∀ w' C' H' i v H2, Ext w w' → Rel N w' C' H' → Y i H' v H2 → ∃ w2 x, xs[i]? = some x ∧ Ext w' w2 ∧ Rel N w2 C' H2 ∧ RelP N w2.F x v
/-- .. once its sources are locked -/
def ItX (N : Nm) (w : Wd) (C : Cells) (q : List P × List FW.D) (J : It) : Prop := (∀ n, FW.D.c n ∈ q.2 → ∃ l, FW.view C (.c n) = some (.lst l)) ∧
  ∀ w1, Ext w w1 → (∀ d ∈ q.2, ∀ x, FW.view C d = some x → Kept w1 d x) → ItR N w1 J q.1
def tI (N : Nm) (G : Gm) (it : Itx) (W : WX) : TI := fun σ H R => ∃ w C τ, Rel N w C H ∧ RelE N w τ σ ∧
  Post N w σ W (fun w1 (q : (List P × List FW.D) × Cells) (J : It) => ItX N w1 q.2 q.1 J) ((evalI G it τ C).bnd fun q C1 => .ok (q, C1) C1) R
section
variable {N : Nm} {w : Wd} {C : Cells} {H : Hp} {K : PySem.W.Frag}
theorem itr_list {l : List P} {d : FW.D} {a : Addr} (k : Kept w d (.lst l)) (rd : RelD N w d (.ref a)) : ItR N w (Itl K a) l := by
  have get : ∀ w' C' H', Ext w w' → Rel N w' C' H' → ∃ vs, SqL K H' a vs ∧ RelPs N w'.F l vs := fun w' C' H' e R => by
    obtain ⟨a', vs, e2, h, r⟩ := R.view (rd.mono e) (k.view e R)
    cases e2
    exact ⟨vs, .of h, r⟩
  refine ⟨fun H => ∃ vs, vs.length = l.length ∧ SqL K H a vs, fun i H v H' => H' = H ∧ ∀ vs, SqL K H a vs → vs[i]? = some v, ⟨fun i H hi ⟨vs, hl, q⟩ => ⟨vs, vs[i]'(by omega), q, by simp [hl, hi]⟩, fun H ⟨vs, hl, q⟩ => ⟨vs, q, by omega⟩, fun i H x H' _ _ y => y⟩,
    fun w' C' H' e R => let ⟨vs, q, r⟩ := get w' C' H' e R; ⟨vs, r.len.symm, q⟩, fun w' C' H' i v H2 e R ⟨e2, y⟩ => ?_⟩
  subst e2
  obtain ⟨vs, q, r⟩ := get w' C' H2 e R
  obtain ⟨x, hx, rx⟩ := r.getV (y vs q)
  exact ⟨w', x, hx, Ext.refl w', R, rx⟩
theorem itr_scr (hK : K = N.K) {l : List P} {d : FW.D} {a : Addr} (k : Kept w d (.scr l)) (rd : RelD N w d (.ref a)) : ItR N w (Itl K a) l := by
  have get : ∀ w' C' H', Ext w w' → Rel N w' C' H' → ∃ vs, SqL K H' a vs ∧ RelPs N w'.F l vs := fun w' C' H' e R => by
    obtain ⟨a', vs, e2, h, r⟩ := R.view (rd.mono e) (k.view e R)
    cases e2
    exact ⟨vs, by rw [hK]; exact h, r⟩
  refine ⟨fun H => ∃ vs, vs.length = l.length ∧ SqL K H a vs, fun i H v H' => H' = H ∧ ∀ vs, SqL K H a vs → vs[i]? = some v, ⟨fun i H hi ⟨vs, hl, q⟩ => ⟨vs, vs[i]'(by omega), q, by simp [hl, hi]⟩, fun H ⟨vs, hl, q⟩ => ⟨vs, q, by omega⟩, fun i H x H' _ _ y => y⟩,
    fun w' C' H' e R => let ⟨vs, q, r⟩ := get w' C' H' e R; ⟨vs, r.len.symm, q⟩, fun w' C' H' i v H2 e R ⟨e2, y⟩ => ?_⟩
  subst e2
  obtain ⟨vs, q, r⟩ := get w' C' H2 e R
  obtain ⟨x, hx, rx⟩ := r.getV (y vs q)
  exact ⟨w', x, hx, Ext.refl w', R, rx⟩
theorem itr_tup {l : List P} {d : FW.D} {a : Addr} (k : Kept w d (.tup l)) (rd : RelD N w d (.ref a)) : ItR N w (Itt K a) l := by
  have get : ∀ w' C' H', Ext w w' → Rel N w' C' H' → ∃ vs, SqT K H' a vs ∧ RelPs N w'.F l vs := fun w' C' H' e R => by
    obtain ⟨a', vs, e2, h, r⟩ := R.view (rd.mono e) (k.view e R)
    cases e2
    exact ⟨vs, .of (R.tupH h), r⟩
  refine ⟨fun H => ∃ vs, vs.length = l.length ∧ SqT K H a vs, fun i H v H' => H' = H ∧ ∀ vs, SqT K H a vs → vs[i]? = some v, ⟨fun i H hi ⟨vs, hl, q⟩ => ⟨vs, vs[i]'(by omega), q, by simp [hl, hi]⟩, fun H ⟨vs, hl, q⟩ => ⟨vs, q, by omega⟩, fun i H x H' _ _ y => y⟩,
    fun w' C' H' e R => let ⟨vs, q, r⟩ := get w' C' H' e R; ⟨vs, r.len.symm, q⟩, fun w' C' H' i v H2 e R ⟨e2, y⟩ => ?_⟩
  subst e2
  obtain ⟨vs, q, r⟩ := get w' C' H2 e R
  obtain ⟨x, hx, rx⟩ := r.getV (y vs q)
  exact ⟨w', x, hx, Ext.refl w', R, rx⟩
theorem itr_str {s : Str} : ItR N w (Its s) (s.cps.toList.map fun c => P.str ⟨#[c]⟩) := by
  have hl : (s.cps.toList.map fun c => P.str ⟨#[c]⟩).length = s.cps.size := by simp
  refine ⟨fun _ => True, fun i H v H' => H' = H ∧ ∃ c, s.cps[i]? = some c ∧ v = .str ⟨#[c]⟩, by rw [hl]; exact walk_str, fun _ _ _ _ _ => trivial, fun w' C' H' i v H2 e R ⟨e2, c, hc, hv⟩ => ?_⟩
  subst e2
  exact ⟨w', .str ⟨#[c]⟩, by rw [List.getElem?_map, Array.getElem?_toList, hc]; rfl, Ext.refl w', R, hv⟩
theorem itr_rng {lo hi : Int} : ItR N w (Itr lo (hi - lo).toNat) (rngU lo hi) := by
  have hl : (rngU lo hi).length = (hi - lo).toNat := by simp [rngU]
  refine ⟨fun _ => True, fun i H v H' => i < (hi - lo).toNat ∧ H' = H ∧ v = .int (lo + i), ?_, fun _ _ _ _ _ => trivial, fun w' C' H' i v H2 e R ⟨hi', e2, hv⟩ => ?_⟩
  · rw [hl]
    exact (walk_range (lo := lo) (n := (hi - lo).toNat)).mono (fun _ _ => trivial) fun i H x H' hi _ y => ⟨hi, y⟩
  · subst e2
    exact ⟨w', .int (lo + i), by unfold rngU; rw [List.getElem?_map, List.getElem?_range hi']; rfl, Ext.refl w', R, hv⟩
theorem itr_enum {l : List P} {d : FW.D} {a : Addr} (k : Kept w d (.lst l)) (rd : RelD N w d (.ref a)) : ItR N w (Ite K a) (l.zipIdx.map fun q => P.tup [.int q.2, q.1]) := by
  have get : ∀ w' C' H', Ext w w' → Rel N w' C' H' → ∃ vs, SqL K H' a vs ∧ RelPs N w'.F l vs := fun w' C' H' e R => by
    obtain ⟨a', vs, e2, h, r⟩ := R.view (rd.mono e) (k.view e R)
    cases e2
    exact ⟨vs, .of h, r⟩
  have hl : (l.zipIdx.map fun q => P.tup [.int q.2, q.1]).length = l.length := by simp
  refine ⟨fun H => ∃ vs, vs.length = l.length ∧ SqL K H a vs, fun i H v H' => ∃ T x, v = .ref T ∧ H T = none ∧ H' = upd H T (.tup [.int (i : Nat), x]) ∧ ∀ xs, SqL K H a xs → xs[i]? = some x, ?_,
    fun w' C' H' e R => let ⟨vs, q, r⟩ := get w' C' H' e R; ⟨vs, r.len.symm, q⟩, fun w' C' H' i v H2 e R ⟨T, x, ev, hT, eH, y⟩ => ?_⟩
  · rw [hl]
    exact ⟨fun i H hi ⟨vs, hl, q⟩ => ⟨vs, vs[i]'(by omega), q, by simp [hl, hi]⟩, fun H ⟨vs, hl, q⟩ => ⟨vs, q, by omega⟩, fun i H x H' _ _ y => y⟩
  · subst eH ev
    obtain ⟨vs, q, r⟩ := get w' C' H' e R
    obtain ⟨p, hp, rp⟩ := r.getV (y vs q)
    obtain ⟨R2, e2⟩ := R.newF (.tup [.int (i : Nat), x]) hT
    exact ⟨_, .tup [.int (i : Nat), p], by simp [hp], e2, R2, T, _, rfl, upd_same, rfl, RelP.mono e2.F _ _ rp, trivial⟩
theorem itr_zip {l r : List P} {d d' : FW.D} {a b : Addr} (k : Kept w d (.lst l)) (rd : RelD N w d (.ref a)) (k' : Kept w d' (.lst r)) (rd' : RelD N w d' (.ref b)) : ItR N w (Itz K a b) ((l.zip r).map fun q => P.tup [q.1, q.2]) := by
  have get : ∀ {l d a}, Kept w d (.lst l) → RelD N w d (.ref a) → ∀ w' C' H', Ext w w' → Rel N w' C' H' → ∃ vs, SqL K H' a vs ∧ RelPs N w'.F l vs := fun {l d a} k rd w' C' H' e R => by
    obtain ⟨a', vs, e2, h, r⟩ := R.view (rd.mono e) (k.view e R)
    cases e2
    exact ⟨vs, .of h, r⟩
  have hl : ((l.zip r).map fun q => P.tup [q.1, q.2]).length = min l.length r.length := by simp
  refine ⟨fun H => ∃ vs us, vs.length = l.length ∧ us.length = r.length ∧ SqL K H a vs ∧ SqL K H b us, fun i H v H' => ∃ T x y, v = .ref T ∧ H T = none ∧ H' = upd H T (.tup [x, y]) ∧ (∀ xs, SqL K H a xs → xs[i]? = some x) ∧ ∀ ys, SqL K H b ys → ys[i]? = some y, ?_,
    fun w' C' H' e R => ?_, fun w' C' H' i v H2 e R ⟨T, x, z, ev, hT, eH, y, y'⟩ => ?_⟩
  · rw [hl]
    exact ⟨fun i H hi ⟨vs, us, h1, h2, q, q'⟩ => ⟨vs, us, vs[i]'(by omega), us[i]'(by omega), q, q', by simp [show i < vs.length by omega], by simp [show i < us.length by omega]⟩,
      fun H ⟨vs, us, h1, h2, q, q'⟩ => ⟨vs, us, q, q', by omega⟩, fun i H x H' _ _ y => y⟩
  · obtain ⟨vs, q, h⟩ := get k rd w' C' H' e R
    obtain ⟨us, q', h'⟩ := get k' rd' w' C' H' e R
    exact ⟨vs, us, h.len.symm, h'.len.symm, q, q'⟩
  · subst eH ev
    obtain ⟨vs, q, h⟩ := get k rd w' C' H' e R
    obtain ⟨us, q', h'⟩ := get k' rd' w' C' H' e R
    obtain ⟨p, hp, rp⟩ := h.getV (y vs q)
    obtain ⟨p', hp', rp'⟩ := h'.getV (y' us q')
    obtain ⟨R2, e2⟩ := R.newF (.tup [x, z]) hT
    refine ⟨_, .tup [p, p'], ?_, e2, R2, T, _, rfl, upd_same, RelP.mono e2.F _ _ rp, RelP.mono e2.F _ _ rp', trivial⟩
    rw [List.getElem?_map, show (l.zip r)[i]? = some (p, p') from List.getElem?_zip_eq_some.mpr ⟨hp, hp'⟩]; rfl
end
section
variable {X : Cx} {N : Nm} {G : Gm} {W : WX} {a b c e tg : Expr} {ea eb ec : Ex} {pos p apos : Pos}
theorem ref_of {w : Wd} {C : Cells} {H : Hp} {d : FW.D} {v : V} {x : P} (R : Rel N w C H) (rd : RelD N w d v) (e : FW.view C d = some x) (h : match x with
  | .lst _ | .tup _ | .scr _ | .dct _ | .dcT _ | .obj _ _ => True
  | _ => False) : ∃ a, v = .ref a := by
  have r := R.view rd e
  cases x <;> first
    | exact h.elim
    | (obtain ⟨a, _, _, e, _⟩ := r; exact ⟨a, e⟩)
    | (obtain ⟨a, _, e, _⟩ := r; exact ⟨a, e⟩)
theorem PIimp {t t' : TI} (h : PI X tg e t) (f : ∀ σ H R, t' σ H R → t σ H R) : PI X tg e t' := ⟨fun pins s σ H R I q => h.run pins s σ H R I (f σ H R q)⟩
theorem s_ival (hK : X.K = N.K) (ha : PE X a (tE N G ea W)) : PI X tg a (tI N G (.val ea) W) := by
  refine ⟨fun pins s σ H Q I ⟨w, C, τ, R, E, h⟩ => ?_⟩
  have h : Post N w σ W (fun w1 (q : (List P × List FW.D) × Cells) (J : It) => ItX N w1 q.2 q.1 J) (((eval G ea τ C).bnd fun d C1 => ofO (((FW.view C1 d).bind itemsL).map fun l => (l, [d])) C1).bnd fun q C1 => .ok (q, C1) C1) Q := h
  have go : ∀ {t : TI}, PI X tg a t → t σ H Q → wpAny (model X.prog X.w) X.A (PySem.eval a X.env) (fun v s1 => wpAny (model X.prog X.w) X.A (pyIter v) (PIE X pins σ tg Q) X.xe s1) X.xe s := fun {t} hp q => hp.run pins s σ H Q I q
  cases er : eval G ea τ C with
  | stuck => rw [er] at h; exact h.elim
  | ex c fs C1 =>
    rw [er] at h
    exact go (pi_list ha) ⟨w, C, τ, R, E, by rw [er]; exact h⟩
  | ok d C1 =>
    rw [er] at h
    cases ev : FW.view C1 d with
    | none =>
      have h : Post N w σ W (fun w1 (q : (List P × List FW.D) × Cells) (J : It) => ItX N w1 q.2 q.1 J) ((ofO (((FW.view C1 d).bind itemsL).map fun l => (l, [d])) C1).bnd fun q C1 => .ok (q, C1) C1) Q := h
      rw [ev] at h; exact h.elim
    | some x =>
      have h : Post N w σ W (fun w1 (q : (List P × List FW.D) × Cells) (J : It) => ItX N w1 q.2 q.1 J) ((ofO (((FW.view C1 d).bind itemsL).map fun l => (l, [d])) C1).bnd fun q C1 => .ok (q, C1) C1) Q := h
      rw [ev] at h
      have one : ∀ n, FW.D.c n ∈ [d] → d = .c n := fun n z => (List.mem_singleton.mp z).symm
      cases x with
      | lst l =>
        refine go (pi_list ha) ⟨w, C, τ, R, E, ?_⟩
        rw [er]
        intro w' H' v e' R' rd
        obtain ⟨ad, rfl⟩ := ref_of R' rd ev trivial
        obtain ⟨a', vs, e2, hv, r⟩ := R'.view rd ev
        refine ⟨ad, rfl, ⟨vs, by cases e2; exact .of hv⟩, h w' H' _ e' R' ⟨fun n hn => ⟨l, one n hn ▸ ev⟩, fun w1 e1 k => itr_list (k d List.mem_cons_self _ ev) (rd.mono e1)⟩⟩
      | scr l =>
        refine go (pi_list ha) ⟨w, C, τ, R, E, ?_⟩
        rw [er]
        intro w' H' v e' R' rd
        obtain ⟨ad, rfl⟩ := ref_of R' rd ev trivial
        obtain ⟨a', vs, e2, hv, r⟩ := R'.view rd ev
        refine ⟨ad, rfl, ⟨vs, by cases e2; rw [hK]; exact hv⟩, h w' H' _ e' R' ⟨fun n hn => ?_, fun w1 e1 k => itr_scr hK (k d List.mem_cons_self _ ev) (rd.mono e1)⟩⟩
        have hd := one n hn
        subst hd
        obtain ⟨b, hb, _⟩ := rd
        cases hc : C1[n]? with
        | none => simp [FW.view, hc] at ev
        | some cl =>
          obtain ⟨mo, o'⟩ := cl
          simp [FW.view, hc] at ev
          subst ev
          obtain ⟨u, hu, ru⟩ := R'.cellAt hb hc
          cases u <;> exact (show False from ru).elim
      | tup l =>
        refine go (pi_tup ha) ⟨w, C, τ, R, E, ?_⟩
        rw [er]
        intro w' H' v e' R' rd
        obtain ⟨ad, rfl⟩ := ref_of R' rd ev trivial
        obtain ⟨a', vs, e2, hv, r⟩ := R'.view rd ev
        refine ⟨ad, rfl, ⟨vs, by cases e2; exact .of (R'.tupH hv)⟩, h w' H' _ e' R' ⟨fun n hn => ?_, fun w1 e1 k => itr_tup (k d List.mem_cons_self _ ev) (rd.mono e1)⟩⟩
        have hd := one n hn
        subst hd
        obtain ⟨b, hb, _⟩ := rd
        cases hc : C1[n]? with
        | none => simp [FW.view, hc] at ev
        | some cl =>
          obtain ⟨mo, o'⟩ := cl
          simp [FW.view, hc] at ev
          subst ev
          obtain ⟨u, hu, ru⟩ := R'.cellAt hb hc
          cases u <;> exact (show False from ru).elim
      | str z =>
        refine go (pi_str ha) ⟨w, C, τ, R, E, ?_⟩
        rw [er]
        intro w' H' v e' R' rd
        obtain rfl := R'.view rd ev
        refine ⟨z, rfl, h w' H' _ e' R' ⟨fun n hn => ?_, fun w1 e1 k => itr_str⟩⟩
        have hd := one n hn
        subst hd
        obtain ⟨b, hb, e3⟩ := rd
        cases e3
      | _ => exact h.elim
theorem ltB_ok {i : Int} (h : ltB i = true) : -(2 ^ 62) ≤ i ∧ i < 2 ^ 62 := by
  unfold ltB at h
  simp only [Bool.and_eq_true, decide_eq_true_eq] at h
  exact h
theorem s_rng1 (hg : Gl X "range") (hm : X.mg "range" = none) (ha : PE X a (tE N G ea W)) (hs : notStar a = true) : PI X tg (.Call (.Name "range" p) [a] [] pos) (tI N G (.rng1 ea) W) :=
  PIimp (pi_range1 hg hm (pa_cons ha pa_nil (star_cons hs)) (by rw [star_cons hs]; rfl)) fun σ H Q ⟨w, C, τ, R, E, h⟩ => ⟨w, C, τ, R, E, by
    have h : Post N w σ W (fun w1 (q : (List P × List FW.D) × Cells) (J : It) => ItX N w1 q.2 q.1 J) (((eval G ea τ C).bnd fun x C1 => match FW.view C1 x with
      | some (.int j) => if ltB j then .ok (rngU 0 j, []) C1 else .stuck
      | _ => .stuck).bnd fun q C1 => .ok (q, C1) C1) Q := h
    rw [bnd_assoc] at h
    refine h.seq fun w1 C1 x v H1 e1 R1 r1 h1 => ?_
    cases ev : FW.view C1 x with
    | none => rw [ev] at h1; exact h1.elim
    | some q =>
      rw [ev] at h1
      have rt := R1.view r1 ev
      clear ev
      cases q <;> first | exact h1.elim | skip
      rename_i _ j
      obtain rfl := rt
      have h1 : Post N w1 σ W (fun w1 (q : (List P × List FW.D) × Cells) (J : It) => ItX N w1 q.2 q.1 J) ((if ltB j then .ok (rngU 0 j, []) C1 else .stuck : FW.R (List P × List FW.D)).bnd fun q C1 => .ok (q, C1) C1) Q := h1
      by_cases hj : ltB j = true
      · rw [if_pos hj] at h1
        obtain ⟨j1, j2⟩ := ltB_ok hj
        refine ⟨j, rfl, j1, j2, ?_⟩
        have z : ∀ w2 : Wd, ItR N w2 (Itr 0 j.toNat) (rngU 0 j) := fun w2 => by
          have z := itr_rng (N := N) (w := w2) (lo := 0) (hi := j)
          rw [Int.sub_zero] at z
          exact z
        exact h1 w1 H1 _ (Ext.refl w1) R1 ⟨fun n hn => by simp at hn, fun w2 _ _ => z w2⟩
      · rw [if_neg hj] at h1; exact h1.elim⟩
theorem s_rng2 (hg : Gl X "range") (hm : X.mg "range" = none) (ha : PE X a (tE N G ea W)) (hb : PE X b (tE N G eb W)) (hs : notStar a = true) (hs2 : notStar b = true) : PI X tg (.Call (.Name "range" p) [a, b] [] pos) (tI N G (.rng2 ea eb) W) :=
  PIimp (pi_range2 hg hm (pa_cons ha (pa_cons hb pa_nil (star_cons hs2)) (star_cons hs)) (by rw [star_cons hs, star_cons hs2]; rfl) (by rw [star_cons hs2]; rfl)) fun σ H Q ⟨w, C, τ, R, E, h⟩ => ⟨w, C, τ, R, E, by
    have h : Post N w σ W (fun w1 (q : (List P × List FW.D) × Cells) (J : It) => ItX N w1 q.2 q.1 J) (((eval G ea τ C).bnd fun x C1 => (eval G eb τ C1).bnd fun y C2 => match FW.view C2 x, FW.view C2 y with
      | some (.int i), some (.int j) => if ltB i && ltB j then .ok (rngU i j, []) C2 else .stuck
      | _, _ => .stuck).bnd fun q C1 => .ok (q, C1) C1) Q := h
    rw [bnd_assoc] at h
    refine h.seq fun w1 C1 x v H1 e1 R1 r1 h1 => ⟨w1, C1, τ, R1, E.mono e1, ?_⟩
    rw [bnd_assoc] at h1
    refine h1.seq fun w2 C2 y u H2 e2 R2 r2 h2 => ?_
    have r1 := r1.mono e2
    cases ev : FW.view C2 x with
    | none => rw [ev] at h2; exact h2.elim
    | some q =>
      cases ev2 : FW.view C2 y with
      | none => rw [ev, ev2] at h2; cases q <;> exact h2.elim
      | some q' =>
        rw [ev, ev2] at h2
        have rt := R2.view r1 ev
        have rt2 := R2.view r2 ev2
        clear ev ev2
        cases q <;> first | exact h2.elim | skip
        cases q' <;> first | exact h2.elim | skip
        rename_i _ i j
        obtain rfl := rt
        obtain rfl := rt2
        have h2 : Post N w2 σ W (fun w1 (q : (List P × List FW.D) × Cells) (J : It) => ItX N w1 q.2 q.1 J) ((if ltB i && ltB j then .ok (rngU i j, []) C2 else .stuck : FW.R (List P × List FW.D)).bnd fun q C1 => .ok (q, C1) C1) Q := h2
        by_cases hj : (ltB i && ltB j) = true
        · rw [if_pos hj] at h2
          simp only [Bool.and_eq_true] at hj
          obtain ⟨i1, i2⟩ := ltB_ok hj.1
          obtain ⟨j1, j2⟩ := ltB_ok hj.2
          exact ⟨i, j, rfl, ⟨i1, i2, j1, j2⟩, h2 w2 H2 _ (Ext.refl w2) R2 ⟨fun n hn => by simp at hn, fun w3 _ _ => itr_rng⟩⟩
        · rw [if_neg hj] at h2; exact h2.elim⟩
theorem s_enum {elts : List Expr} {kk : Nat} {tpos : Pos} (hg : Gl X "enumerate") (hm : X.mg "enumerate" = none) (ha : PE X a (tE N G ea W)) (hs : notStar a = true) : PI X (.Tuple elts kk tpos) (.Call (.Name "enumerate" p) [a] [] pos) (tI N G (.enum ea) W) :=
  PIimp (pi_enum hg hm (pa_cons ha pa_nil (star_cons hs)) (by rw [star_cons hs]; rfl)) fun σ H Q ⟨w, C, τ, R, E, h⟩ => ⟨w, C, τ, R, E, by
    have h : Post N w σ W (fun w1 (q : (List P × List FW.D) × Cells) (J : It) => ItX N w1 q.2 q.1 J) (((eval G ea τ C).bnd fun d C1 => match FW.view C1 d with
      | some (.lst l) => .ok (l.zipIdx.map fun q => P.tup [.int q.2, q.1], [d]) C1
      | _ => .stuck).bnd fun q C1 => .ok (q, C1) C1) Q := h
    rw [bnd_assoc] at h
    refine h.seq fun w1 C1 x v H1 e1 R1 r1 h1 => ?_
    cases ev : FW.view C1 x with
    | none => rw [ev] at h1; exact h1.elim
    | some q =>
      rw [ev] at h1
      cases q <;> first | exact h1.elim | skip
      rename_i _ l
      obtain ⟨ad, vs, rfl, hv, r⟩ := R1.view r1 ev
      exact ⟨ad, vs, rfl, .of hv, h1 w1 H1 _ (Ext.refl w1) R1 ⟨fun n hn => ⟨l, by cases (List.mem_singleton.mp hn); exact ev⟩, fun w2 e2 k => itr_enum (k x List.mem_cons_self _ ev) (r1.mono e2)⟩⟩⟩
theorem s_zip {elts : List Expr} {kk : Nat} {tpos : Pos} (hg : Gl X "zip") (hm : X.mg "zip" = none) (ha : PE X a (tE N G ea W)) (hb : PE X b (tE N G eb W)) (hs : notStar a = true) (hs2 : notStar b = true) : PI X (.Tuple elts kk tpos) (.Call (.Name "zip" p) [a, b] [] pos) (tI N G (.zip ea eb) W) :=
  PIimp (pi_zip hg hm (pa_cons ha (pa_cons hb pa_nil (star_cons hs2)) (star_cons hs)) (star_cons hs) (star_pl (by simp [hs2]))) fun σ H Q ⟨w, C, τ, R, E, h⟩ => ⟨w, C, τ, R, E, by
    have h : Post N w σ W (fun w1 (q : (List P × List FW.D) × Cells) (J : It) => ItX N w1 q.2 q.1 J) (((eval G ea τ C).bnd fun x C1 => (eval G eb τ C1).bnd fun y C2 => match FW.view C2 x, FW.view C2 y with
      | some (.lst l), some (.lst r) => .ok ((l.zip r).map fun q => P.tup [q.1, q.2], [x, y]) C2
      | _, _ => .stuck).bnd fun q C1 => .ok (q, C1) C1) Q := h
    rw [bnd_assoc] at h
    refine h.seq fun w1 C1 x v H1 e1 R1 r1 h1 => ⟨w1, C1, τ, R1, E.mono e1, ?_⟩
    rw [bnd_assoc] at h1
    refine h1.seq fun w2 C2 y u H2 e2 R2 r2 h2 => ?_
    have r1 := r1.mono e2
    cases ev : FW.view C2 x with
    | none => rw [ev] at h2; exact h2.elim
    | some q =>
      cases ev2 : FW.view C2 y with
      | none => rw [ev, ev2] at h2; cases q <;> exact h2.elim
      | some q' =>
        rw [ev, ev2] at h2
        cases q <;> first | exact h2.elim | skip
        cases q' <;> first | exact h2.elim | skip
        rename_i _ l r
        obtain ⟨ad, vs, rfl, hv, rr⟩ := R2.view r1 ev
        obtain ⟨bd, us, rfl, hu, ru⟩ := R2.view r2 ev2
        refine ⟨ad, bd, vs, us, rfl, .of hv, .of hu, h2 w2 H2 _ (Ext.refl w2) R2 ⟨fun n hn => ?_, fun w3 e3 k => itr_zip (k x List.mem_cons_self _ ev) (r1.mono e3) (k y (List.mem_cons_of_mem _ List.mem_cons_self) _ ev2) (r2.mono e3)⟩⟩
        rcases List.mem_cons.mp hn with q | q
        · subst q; exact ⟨l, ev⟩
        · cases (List.mem_singleton.mp q); exact ⟨r, ev2⟩⟩
end
end FW

set_option maxRecDepth 100000
set_option maxHeartbeats 2000000
/-! FwE3: targets, list comprehensions. -/
namespace FW
open PySem PySem.Spec PyProof.Rows L2
/-! ### targets -/
def gNs : List Nat → TGs
  | [] => gNil
  | i :: r => gCons (gName i) (gNs r)
def tgG (K : PySem.W.Frag) : Tg → TG
  | .nm i => gName i
  | .tp is => gTup K is.length (gNs is)
def tgI : Tg → List Nat
  | .nm i => [i]
  | .tp is => is
theorem wipe_set {σ : L2.St} {i : Nat} {x : Option V} : ∀ {vs : List Nat}, i ∈ vs → wipe (σ.set i x) vs = wipe σ vs
  | [], h => by simp at h
  | v :: vs, h => by
    unfold wipe
    by_cases q : i ∈ vs
    · rw [wipe_set q]
    · have e : v = i := by
        rcases List.mem_cons.mp h with z | z
        · exact z.symm
        · exact absurd z q
      subst e
      have : ∀ {us : List Nat}, v ∉ us → (wipe (σ.set v x) us).set v none = (wipe σ us).set v none := fun {us} hn => by
        clear h q
        induction us with
        | nil => simp [wipe, List.set_set]
        | cons u us ih =>
          have hu : u ≠ v := fun z => hn (by simp [z])
          have ih := ih (fun z => hn (List.mem_cons_of_mem _ z))
          unfold wipe
          rw [List.set_comm _ _ hu, ih, List.set_comm _ _ hu.symm]
      exact this q
theorem wipe_idem {σ : L2.St} : ∀ vs : List Nat, wipe (wipe σ vs) vs = wipe σ vs := fun vs => by
  have : ∀ us : List Nat, (∀ i ∈ us, i ∈ vs) → wipe (wipe σ us) vs = wipe σ vs := fun us => by
    induction us with
    | nil => intro _; rfl
    | cons u us ih =>
      intro h
      show wipe ((wipe σ us).set u none) vs = wipe σ vs
      rw [wipe_set (h u List.mem_cons_self)]
      exact ih fun i hi => h i (List.mem_cons_of_mem _ hi)
  exact this vs fun _ h => h
section
variable {N : Nm} {w : Wd} {C : Cells} {H : Hp}
theorem RelE.set {τ : Env} {σ : L2.St} {d : FW.D} {v : V} (E : RelE N w τ σ) (r : RelD N w d v) (i : Nat) : RelE N w (τ.set i (some d)) (σ.set i (some v)) := by
  refine ⟨by simp [E.1], fun j d' h => ?_⟩
  by_cases q : i = j
  · subst q
    have hl : i < τ.length := by
      have := (List.getElem?_eq_some_iff.mp h).1
      simpa using this
    rw [List.getElem?_set_self hl] at h
    cases h
    exact ⟨v, by rw [List.getElem?_set_self (by rw [← E.1]; exact hl)], r⟩
  · rw [List.getElem?_set_ne q] at h
    obtain ⟨u, e, r'⟩ := E.2 j d' h
    exact ⟨u, by rw [List.getElem?_set_ne q]; exact e, r'⟩
theorem RelE.setN {τ : Env} {σ : L2.St} (E : RelE N w τ σ) (i : Nat) : RelE N w (τ.set i none) (σ.set i none) := by
  refine ⟨by simp [E.1], fun j d' h => ?_⟩
  by_cases q : i = j
  · subst q
    have hl : i < τ.length := by
      have := (List.getElem?_eq_some_iff.mp h).1
      simpa using this
    rw [List.getElem?_set_self hl] at h
    cases h
  · rw [List.getElem?_set_ne q] at h
    obtain ⟨u, e, r'⟩ := E.2 j d' h
    exact ⟨u, by rw [List.getElem?_set_ne q]; exact e, r'⟩
theorem RelE.wipe {τ : Env} {σ : L2.St} (E : RelE N w τ σ) : ∀ vs : List Nat, RelE N w (wipeE τ vs) (L2.wipe σ vs)
  | [] => E
  | v :: vs => (RelE.wipe E vs).setN v
def foldB (τ : Env) (is : List Nat) (l : List P) : Env := (is.zip l).foldl (fun s q => s.set q.1 (some (.p q.2))) τ
theorem gNs_ok : ∀ {is : List Nat} {l : List P} {vs : List V} {τ : Env} {σ : L2.St} {Q : L2.St → Hp → Prop}, is.length = l.length → RelPs N w.F l vs → RelE N w τ σ →
    (∀ σ2, RelE N w (foldB τ is l) σ2 → (∀ us, (∀ i ∈ is, i ∈ us) → L2.wipe σ2 us = L2.wipe σ us) → Q σ2 H) → gNs is vs σ H Q
  | [], [], [], τ, σ, Q, _, _, E, h => ⟨rfl, h σ E fun _ _ => rfl⟩
  | i :: is, x :: l, v :: vs, τ, σ, Q, hl, ⟨rx, r⟩, E, h => by
    refine ⟨v, vs, rfl, ?_⟩
    show gNs is vs (σ.set i (some v)) H Q
    exact gNs_ok (by simpa using hl) r (E.set (d := .p x) rx i) fun σ2 E2 hw => h σ2 E2 fun us hu => (hw us fun j hj => hu j (List.mem_cons_of_mem _ hj)).trans (wipe_set (hu i List.mem_cons_self))
  | [], _ :: _, _, _, _, _, hl, _, _, _ => by simp at hl
  | _ :: _, [], _, _, _, _, hl, _, _, _ => by simp at hl
  | _, [], _ :: _, _, _, _, _, r, _, _ => r.elim
  | _, _ :: _, [], _, _, _, _, r, _, _ => r.elim
theorem tg_ok {K : PySem.W.Frag} (R : Rel N w C H) {tg : Tg} {x : P} {v : V} {τ τ1 : Env} {σ : L2.St} {Q : L2.St → Hp → Prop} (rx : RelP N w.F x v) (E : RelE N w τ σ) (hb : bindT tg x τ = some τ1)
    (h : ∀ σ2, RelE N w τ1 σ2 → (∀ us, (∀ i ∈ tgI tg, i ∈ us) → L2.wipe σ2 us = L2.wipe σ us) → Q σ2 H) : tgG K tg v σ H Q := by
  cases tg with
  | nm i =>
    cases hb
    exact h _ (E.set (d := .p x) rx i) fun us hu => wipe_set (hu i (by simp [tgI]))
  | tp is =>
    cases x <;> first | (cases (show (none : Option Env) = some τ1 from hb); done) | skip
    rename_i l
    have hb : (if l.length = is.length then some (foldB τ is l) else none) = some τ1 := hb
    by_cases q : l.length = is.length
    · rw [if_pos q] at hb
      cases hb
      obtain ⟨a, vs, rfl, ha, r⟩ := rx
      exact ⟨a, vs, rfl, .of (R.tupH ha), by rw [← r.len, q], gNs_ok q.symm r E h⟩
    · rw [if_neg q] at hb; cases hb
/-! ### lists from walks -/
theorem Rel.fz1 (R : Rel N w C H) {d : FW.D} {v : V} (rd : RelD N w d v) (h : FW.fz1 C d ≠ .stuck) : ∃ w1 C1 x, FW.fz1 C d = .ok x C1 ∧ Ext w w1 ∧ Rel N w1 C1 H ∧ RelP N w1.F x v := by
  obtain ⟨w1, C1, x, e, R1, r1, q, _⟩ := Post.fz1 (σ := []) (W := fun _ _ _ _ => True) (Rl := fun _ (a b : P × Cells) => a = b) (kk := fun x C1 => .ok (x, C1) C1) (Q := fun q _ => FW.fz1 C d = .ok q.1 q.2 ∧ ∀ {w1 : Wd}, True) R rd (by
    cases e : FW.fz1 C d with
    | stuck => exact absurd e h
    | ex c fs C1 => exact fun _ _ _ _ _ _ _ => trivial
    | ok x C1 => exact fun _ _ b _ _ e2 => by have e2 : (x, C1) = b := e2; subst e2; exact ⟨rfl, trivial⟩)
  have z := (Post.done (b := (x, C1)) q R1 rfl).1
  exact ⟨w1, C1, x, z, e, R1, r1⟩
abbrev WF : WX := fun _ _ _ _ => False
theorem Post.seqX {w0 : Wd} {σ σ2 : L2.St} {W : WX} {α β γ δ ε : Type} {Rk : Wd → ε → δ → Prop} {Rl : Wd → α → β → Prop} {r : FW.R α} {k : α → Cells → FW.R γ} {k' : γ → Cells → FW.R ε} {Q' : δ → Hp → Prop} {Q : β → Hp → Prop}
    (h : Post N w0 σ W Rk ((noX (r.bnd k)).bnd k') Q') (f : ∀ w1 C1 a b H1, Ext w w1 → Rel N w1 C1 H1 → Rl w1 a b → Post N w0 σ W Rk ((noX (k a C1)).bnd k') Q' → Q b H1) : Post N w σ2 WF Rl r Q := by
  cases r with
  | ok a C => exact fun w1 H1 b e R r => f w1 C a b H1 e R r h
  | ex c fs C => exact h.elim
  | stuck => exact h.elim
end
theorem drop_cons {α : Type} {l : List α} {i : Nat} {x : α} (h : l[i]? = some x) : l.drop i = x :: l.drop (i + 1) := by
  obtain ⟨hl, e⟩ := List.getElem?_eq_some_iff.mp h
  rw [List.drop_eq_getElem_cons hl, e]
section
variable {X : Cx} {N : Nm} {G : Gm} {W : WX} {pos : Pos}
theorem s_comp {K : PySem.W.Frag} {elt tgE iter : Expr} {ifs : List Expr} {scope : Scope} {own : List (Str × Nat)} {it : Itx} {tg : Tg} {cs : Txs} {e : Ex} {kp : Bool} (hc : X.calm = true) (hN : X.N.Nodup) (hi : PI X tgE iter (tI N G it W)) (ok : BlkOk X.N X.env.scope scope own)
    (hg : ∀ (s : Shared) (H : Hp) (C : Addr) (cl : List (Str × Addr)) (fp : List Addr), PG (X.blk s H scope (compEnvC scope cl C X.env) fp) tgE (tgG K tg))
    (ht : ∀ (s : Shared) (H : Hp) (C : Addr) (cl : List (Str × Addr)) (fp : List Addr), PTs (X.blk s H scope (compEnvC scope cl C X.env) fp) ifs (tTs N G cs WF))
    (he : ∀ (s : Shared) (H : Hp) (C : Addr) (cl : List (Str × Addr)) (fp : List Addr), PE (X.blk s H scope (compEnvC scope cl C X.env) fp) elt (tE N G e WF)) (hs : ∀ x, foldedSetIterable iter X.env x = pure x) (htg : ∀ i ∈ tgI tg, i ∈ own.map (·.2))
    {σ : L2.St} {H : Hp} {Q : VK} (h : tE N G (.comp kp (own.map (·.2)) tg it cs e) W σ H Q) : tLc (tI N G it W) (tgG K tg) (tTs N G cs WF) (tE N G e WF) (own.map (·.2)) σ H Q := by
  obtain ⟨w, C, τ, R, E, h⟩ := h
  generalize hvs : own.map (·.2) = vs at h htg ⊢
  have h : Post N w σ W (RelD N) ((evalI G it τ C).bnd fun q C0 => (fun C1 : Cells =>
      (compL C1.length (fun x C2 => noX (match bindT tg x (wipeE τ vs) with
        | some σ1 => (evalC G cs σ1 C2).bnd fun b C3 => if b then (eval G e σ1 C3).bnd fun d C4 => .ok (some d) C4 else .ok none C3
        | none => .stuck)) q.1 (C1 ++ [⟨.mu, .lst []⟩])).bnd fun _ C2 => if C2.length = C1.length + 1 then fin kp C1.length (.ok (.c C1.length) (unlkL (lockL q.2 C0).2 C2)) else .stuck) (lockL q.2 C0).1) Q := h
  refine ⟨w, C, τ, R, E, ?_⟩
  cases er : evalI G it τ C with
  | stuck => rw [er] at h; exact h.elim
  | ex c fs C1 => rw [er] at h; exact h
  | ok q C0 =>
    rw [er] at h
    intro w1 H1 J e1 R1 ⟨hlst, hit⟩ D hD
    obtain ⟨w2, e2, R2, k2⟩ := R1.lock q.2
    obtain ⟨G', Y, walk, hG, hY⟩ := hit w2 e2 k2
    obtain ⟨R3, e3⟩ := R2.newC (o := .lst []) (u := .lst []) hD trivial
    have hlen : (lockL q.2 C0).1.length = C0.length := lockL_len _ _
    have hion : ({ w2 with io := w2.io ++ [D] } : Wd).io[C0.length]? = some D := by
      show (w2.io ++ [D])[C0.length]? = some D
      rw [List.getElem?_append_right (by rw [R2.len, hlen]; exact Nat.le_refl _), R2.len, hlen, Nat.sub_self]; rfl
    generalize hone : (fun (x : P) (C2 : Cells) => noX (match bindT tg x (wipeE τ vs) with
        | some σ1 => (evalC G cs σ1 C2).bnd fun b C3 => if b then (eval G e σ1 C3).bnd fun d C4 => .ok (some d) C4 else .ok none C3
        | none => .stuck)) = one at h
    have h : Post N w σ W (RelD N) ((compL (lockL q.2 C0).1.length one q.1 ((lockL q.2 C0).1 ++ [⟨.mu, .lst []⟩])).bnd fun _ C2 => if C2.length = (lockL q.2 C0).1.length + 1 then fin kp (lockL q.2 C0).1.length (.ok (.c (lockL q.2 C0).1.length) (unlkL (lockL q.2 C0).2 C2)) else .stuck) Q := h
    rw [hlen] at h
    have E3 := ((E.mono e1).mono e2).mono e3
    refine lc_it walk (fun i H => ∃ w' C', Ext { w2 with io := w2.io ++ [D] } w' ∧ Rel N w' C' H ∧ Post N w1 σ W (RelD N) ((compL C0.length one (q.1.drop i) C').bnd fun _ C2 => if C2.length = C0.length + 1 then fin kp C0.length (.ok (.c C0.length) (unlkL (lockL q.2 C0).2 C2)) else .stuck) Q)
      ⟨_, _, Ext.refl _, R3, by simpa using h.ext e1⟩ (fun i H _ ⟨w', C', e', R', _⟩ => hG w' C' H (e3.trans e') R') (fun i x H2 H3 hi ⟨w', C', e', R', hp⟩ y => ?_) (fun H2 ⟨w', C', e', R', hp⟩ => ?_)
    · obtain ⟨w4, xp, hx, e4, R4, rx⟩ := hY w' C' H2 i x H3 (e3.trans e') R' y
      rw [drop_cons hx] at hp
      have hp : Post N w1 σ W (RelD N) (((one xp C').bnd fun o C1 => match o with
        | none => compL C0.length one (q.1.drop (i + 1)) C1
        | some d => (FW.fz1 C1 d).bnd fun y C2 => match C2[C0.length]? with
          | some ⟨.mu, .lst l⟩ => if l.length < big ∧ C2.length = C0.length + 1 then compL C0.length one (q.1.drop (i + 1)) (C2.set C0.length ⟨.mu, .lst (l ++ [y])⟩) else .stuck
          | _ => .stuck).bnd fun _ C2 => if C2.length = C0.length + 1 then fin kp C0.length (.ok (.c C0.length) (unlkL (lockL q.2 C0).2 C2)) else .stuck) Q := hp
      rw [bnd_assoc] at hp
      subst hone
      cases hb : bindT tg xp (wipeE τ vs) with
      | none =>
        have hp : Post N w1 σ W (RelD N) ((noX (match bindT tg xp (wipeE τ vs) with
          | some σ1 => (evalC G cs σ1 C').bnd fun b C3 => if b then (eval G e σ1 C3).bnd fun d C4 => .ok (some d) C4 else .ok none C3
          | none => .stuck)).bnd _) Q := hp
        rw [hb] at hp
        exact hp.elim
      | some τ1 =>
        have hp : Post N w1 σ W (RelD N) ((noX (match bindT tg xp (wipeE τ vs) with
          | some σ1 => (evalC G cs σ1 C').bnd fun b C3 => if b then (eval G e σ1 C3).bnd fun d C4 => .ok (some d) C4 else .ok none C3
          | none => .stuck)).bnd _) Q := hp
        rw [hb] at hp
        have E4 : RelE N w4 (wipeE τ vs) (wipe σ vs) := (((E3.mono e').mono e4)).wipe vs
        refine tg_ok R4 rx E4 hb fun σ2 E5 hw => ⟨(hw vs htg).trans (wipe_idem vs), ?_⟩
        refine ⟨w4, C', τ1, R4, E5, Post.seqX (w := w4) hp fun w5 C5 b b' H5 e5 R5 rb h5 => ?_⟩
        subst rb
        cases b with
        | false => exact iteF ⟨w5, C5, (e'.trans e4).trans e5, R5, h5⟩
        | true =>
          refine iteT ⟨w5, C5, τ1, R5, E5.mono e5, Post.seqX (w := w5) h5 fun w6 C6 d v H6 e6 R6 rd h6 => ?_⟩
          have h6 : Post N w1 σ W (RelD N) (((FW.fz1 C6 d).bnd fun y C2 => match C2[C0.length]? with
            | some ⟨.mu, .lst l⟩ => if l.length < big ∧ C2.length = C0.length + 1 then compL C0.length _ (q.1.drop (i + 1)) (C2.set C0.length ⟨.mu, .lst (l ++ [y])⟩) else .stuck
            | _ => .stuck).bnd fun _ C2 => if C2.length = C0.length + 1 then fin kp C0.length (.ok (.c C0.length) (unlkL (lockL q.2 C0).2 C2)) else .stuck) Q := h6
          rw [bnd_assoc] at h6
          obtain ⟨w7, C7, yp, ef, e7, R7, ry⟩ := R6.fz1 rd (fun z => by rw [z] at h6; exact h6.elim)
          rw [ef] at h6
          have e37 : Ext { w2 with io := w2.io ++ [D] } w7 := (((e'.trans e4).trans e5).trans e6).trans e7
          have hio7 : w7.io[C0.length]? = some D := by
            obtain ⟨t, et⟩ := e37.io
            rw [et, List.getElem?_append_left (List.getElem?_eq_some_iff.mp hion).1]; exact hion
          have h6 : Post N w1 σ W (RelD N) ((match C7[C0.length]? with
            | some ⟨.mu, .lst l⟩ => if l.length < big ∧ C7.length = C0.length + 1 then compL C0.length _ (q.1.drop (i + 1)) (C7.set C0.length ⟨.mu, .lst (l ++ [yp])⟩) else .stuck
            | _ => .stuck).bnd fun _ C2 => if C2.length = C0.length + 1 then fin kp C0.length (.ok (.c C0.length) (unlkL (lockL q.2 C0).2 C2)) else .stuck) Q := h6
          cases hc7 : C7[C0.length]? with
          | none => rw [hc7] at h6; exact h6.elim
          | some cl =>
            obtain ⟨mo, o⟩ := cl
            rw [hc7] at h6
            cases mo <;> first | exact h6.elim | skip
            cases o <;> first | exact h6.elim | skip
            rename_i l
            obtain ⟨hF, hL, u, hu, ru⟩ := R7.cell _ D _ hio7 hc7
            cases u <;> first | exact (show False from ru).elim | skip
            rename_i acc
            have ru : RelPs N w7.F l acc := ru
            by_cases hz : l.length < big ∧ C7.length = C0.length + 1
            · have h6 : Post N w1 σ W (RelD N) ((if l.length < big ∧ C7.length = C0.length + 1 then compL C0.length _ (q.1.drop (i + 1)) (C7.set C0.length ⟨.mu, .lst (l ++ [yp])⟩) else .stuck).bnd fun _ C2 => if C2.length = C0.length + 1 then fin kp C0.length (.ok (.c C0.length) (unlkL (lockL q.2 C0).2 C2)) else .stuck) Q := h6
              rw [if_pos hz] at h6
              refine ⟨acc, hu, by rw [← ru.len, ← big_eq]; exact hz.1, w7, _, e37, R7.put hio7 hc7 (o' := .lst (l ++ [yp])) (u := .lst (acc ++ [v])) (RelPs.append ru ⟨ry, trivial⟩), h6⟩
            · have h6 : Post N w1 σ W (RelD N) ((if l.length < big ∧ C7.length = C0.length + 1 then compL C0.length _ (q.1.drop (i + 1)) (C7.set C0.length ⟨.mu, .lst (l ++ [yp])⟩) else .stuck).bnd fun _ C2 => if C2.length = C0.length + 1 then fin kp C0.length (.ok (.c C0.length) (unlkL (lockL q.2 C0).2 C2)) else .stuck) Q := h6
              rw [if_neg hz] at h6; exact h6.elim
    · rw [List.drop_length] at hp
      have hp : Post N w1 σ W (RelD N) (if C'.length = C0.length + 1 then fin kp C0.length (.ok (.c C0.length) (unlkL (lockL q.2 C0).2 C')) else .stuck) Q := hp
      by_cases hz : C'.length = C0.length + 1
      · rw [if_pos hz] at hp
        have hp := Post.fin R1 hp
        obtain ⟨Ru, eu⟩ := R1.unlock hlst e2 k2 (e3.trans e') R'
        refine hp _ H2 _ eu Ru ⟨D, ?_, rfl⟩
        obtain ⟨t, et⟩ := e'.io
        show w'.io[C0.length]? = some D
        rw [et, List.getElem?_append_left (List.getElem?_eq_some_iff.mp hion).1]; exact hion
      · rw [if_neg hz] at hp; exact hp.elim
end
end FW

set_option maxRecDepth 100000
set_option maxHeartbeats 2000000
/-! FwF1: statements. -/
namespace FW
open PySem PySem.Spec PyProof.Rows L2
/-- what is wanted behind a statement that ends with o -/
def PostS (N : Nm) (w : Wd) (W : WX) (D : Ends) (o : O) : Prop := match o with
  | .nx τ C => ∀ w' H' σ', Ext w w' → Rel N w' C H' → RelE N w' τ σ' → D.nx σ' H'
  | .rt d C => ∀ w' H' v, Ext w w' → Rel N w' C H' → RelD N w' d v → D.rt v H'
  | .bk τ C => ∀ w' H' σ', Ext w w' → Rel N w' C H' → RelE N w' τ σ' → D.bk σ' H'
  | .ct τ C => ∀ w' H' σ', Ext w w' → Rel N w' C H' → RelE N w' τ σ' → D.ct σ' H'
  | .ex c fs τ C => ∀ w' H' σ' cls dd, Ext w w' → Rel N w' C H' → RelE N w' τ σ' → RelX N w' c fs cls dd H' → W cls dd σ' H'
  | .stuck => False
def tSt (N : Nm) (G : Gm) (st : St) (W : WX) : TS := fun D σ H => ∃ w C τ, Rel N w C H ∧ RelE N w τ σ ∧ PostS N w W D (exec G st τ C)
def tSs (N : Nm) (G : Gm) (st : Ss) (W : WX) : TS := fun D σ H => ∃ w C τ, Rel N w C H ∧ RelE N w τ σ ∧ PostS N w W D (execs G st τ C)
theorem PSimp {X : Cx} {s : Stmt} {t t' : TS} (h : PS X s t) (f : ∀ D σ H, t' D σ H → t D σ H) : PS X s t' := ⟨fun pins s σ H D I q => h.run pins s σ H D I (f D σ H q)⟩
theorem PSsimp {X : Cx} {s : List Stmt} {t t' : TS} (h : PSs X s t) (f : ∀ D σ H, t' D σ H → t D σ H) : PSs X s t' := ⟨fun pins s σ H D I q => h.run pins s σ H D I (f D σ H q)⟩
section
variable {N : Nm} {w w' : Wd} {W : WX} {D D' : Ends}
theorem PostS.ext {o : O} (h : PostS N w W D o) (e : Ext w w') : PostS N w' W D o := by
  cases o with
  | nx τ C => exact fun a b c e2 => h a b c (e.trans e2)
  | rt d C => exact fun a b c e2 => h a b c (e.trans e2)
  | bk τ C => exact fun a b c e2 => h a b c (e.trans e2)
  | ct τ C => exact fun a b c e2 => h a b c (e.trans e2)
  | ex c fs τ C => exact fun a b c d f e2 => h a b c d f (e.trans e2)
  | stuck => exact h
theorem PostS.mono {o : O} (h : PostS N w W D o) (h1 : ∀ σ H, D.nx σ H → D'.nx σ H) (h2 : ∀ v H, D.rt v H → D'.rt v H) (h3 : ∀ σ H, D.bk σ H → D'.bk σ H) (h4 : ∀ σ H, D.ct σ H → D'.ct σ H) : PostS N w W D' o := by
  cases o with
  | nx τ C => exact fun a b c e x y => h1 _ _ (h a b c e x y)
  | rt d C => exact fun a b c e x y => h2 _ _ (h a b c e x y)
  | bk τ C => exact fun a b c e x y => h3 _ _ (h a b c e x y)
  | ct τ C => exact fun a b c e x y => h4 _ _ (h a b c e x y)
  | ex c fs τ C => exact h
  | stuck => exact h
/-- an evaluation ahead of the rest -/
theorem PostS.ofR {α β : Type} {Rl : Wd → α → β → Prop} {r : FW.R α} {τ : Env} {σ : L2.St} {k : α → Cells → O} {Q : β → Hp → Prop} (h : PostS N w W D (O.ofR r τ k)) (E : RelE N w τ σ)
    (f : ∀ w1 C1 a b H1, Ext w w1 → Rel N w1 C1 H1 → Rl w1 a b → PostS N w1 W D (k a C1) → Q b H1) : Post N w σ W Rl r Q := by
  cases r with
  | ok a C => exact fun w1 H1 b e R r => f w1 C a b H1 e R r (PostS.ext h e)
  | ex c fs C => exact fun w1 H1 cls dd e R x => h w1 H1 σ cls dd e R (E.mono e) x
  | stuck => exact h
/-- .. the wish kept at the first world -/
theorem PostS.ofR0 {α β : Type} {Rl : Wd → α → β → Prop} {r : FW.R α} {τ : Env} {σ : L2.St} {k : α → Cells → O} {Q : β → Hp → Prop} (h : PostS N w W D (O.ofR r τ k)) (E : RelE N w τ σ)
    (f : ∀ w1 C1 a b H1, Ext w w1 → Rel N w1 C1 H1 → Rl w1 a b → r = .ok a C1 → Q b H1) : Post N w σ W Rl r Q := by
  cases r with
  | ok a C => exact fun w1 H1 b e R r => f w1 C a b H1 e R r rfl
  | ex c fs C => exact fun w1 H1 cls dd e R x => h w1 H1 σ cls dd e R (E.mono e) x
  | stuck => exact h
theorem PostS.nx' {C : Cells} {H : Hp} {τ : Env} {σ : L2.St} (h : PostS N w W D (.nx τ C)) (R : Rel N w C H) (E : RelE N w τ σ) : D.nx σ H := h w H σ (Ext.refl w) R E
end
section
variable {X : Cx} {N : Nm} {G : Gm} {W : WX} {a b c e : Expr} {ea eb ec : Ex} {pos p : Pos} {i : Nat} {x : Str} {es : List Expr} {er : Exs}
theorem s_asg (hN : X.N.Nodup) (hi : X.N[i]? = some x) (hx : X.env.scope.names.lookup x = some .local) (he : PE X a (tE N G ea W)) (hs : swapsWith a (some (.Name x p)) pos.line X.env = pure false) : PS X (.Assign [.Name x p] a pos) (tSt N G (.asg i ea) W) :=
  PSimp (ps_set hN hi (.inl hx) he hs (.inr hx)) fun D σ H ⟨w, C, τ, R, E, h⟩ => ⟨w, C, τ, R, E, h.ofR E fun w1 C1 d v H1 e1 R1 r1 h1 => h1.nx' R1 ((E.mono e1).set r1 i)⟩
theorem s_asgT (hc : X.calm = true) {is : List Nat} {ts : List Expr} {kk : Nat} {tp : Pos} (hg : PG X (.Tuple ts kk tp) (tgG X.K (.tp is))) (he : PE X a (tE N G ea W)) (hs : swapsWithSole [.Tuple ts kk tp] a pos.line X.env = pure false) (hw : swappedStores [.Tuple ts kk tp] a X.env = pure none) :
    PS X (.Assign [.Tuple ts kk tp] a pos) (tSt N G (.asgT is ea) W) :=
  PSimp (ps_asg he hg hs hw rfl) fun D σ H ⟨w, C, τ, R, E, h⟩ => ⟨w, C, τ, R, E, h.ofR E fun w1 C1 d v H1 e1 R1 r1 h1 => by
    have h1 : PostS N w1 W D (match FW.view C1 d with
      | some x => match bindT (.tp is) x τ with
        | some σ1 => .nx σ1 C1
        | none => .stuck
      | none => .stuck) := h1
    cases ev : FW.view C1 d with
    | none => rw [ev] at h1; exact h1.elim
    | some q =>
      rw [ev] at h1
      have h1 : PostS N w1 W D (match bindT (.tp is) q τ with
        | some σ1 => .nx σ1 C1
        | none => .stuck) := h1
      cases eb : bindT (.tp is) q τ with
      | none => rw [eb] at h1; exact h1.elim
      | some τ1 =>
        rw [eb] at h1
        have rt := R1.view r1 ev
        have rq : RelP N w1.F q v := by
          cases q <;> first | (cases (show (none : Option Env) = some τ1 from eb); done) | exact rt
        exact tg_ok R1 rq (E.mono e1) eb fun σ2 E2 _ => h1.nx' R1 E2⟩
theorem s_expr (he : PE X a (tE N G ea W)) (hs : swapsWith a none pos.line X.env = pure false) : PS X (.Expr a pos) (tSt N G (.expr ea) W) :=
  PSimp (ps_expr he hs) fun D σ H ⟨w, C, τ, R, E, h⟩ => ⟨w, C, τ, R, E, h.ofR E fun w1 C1 d v H1 e1 R1 r1 h1 => h1.nx' R1 (E.mono e1)⟩
theorem s_doc {z : Str} {j : Nat} : PS X (.Expr (.Constant (.str z) j p) pos) (tSt N G .pass W) :=
  PSimp ps_doc fun D σ H ⟨w, C, τ, R, E, h⟩ => h.nx' R E
theorem s_ret (he : PE X a (tE N G ea W)) : PS X (.Return (some a) pos) (tSt N G (.ret ea) W) :=
  PSimp (ps_ret he) fun D σ H ⟨w, C, τ, R, E, h⟩ => ⟨w, C, τ, R, E, h.ofR E fun w1 C1 d v H1 e1 R1 r1 h1 => h1 w1 H1 v (Ext.refl w1) R1 r1⟩
theorem s_retN : PS X (.Return none pos) (tSt N G .retN W) :=
  PSimp ps_retN fun D σ H ⟨w, C, τ, R, E, h⟩ => h w H .non (Ext.refl w) R rfl
theorem s_pass : PS X (.Pass pos) (tSt N G .pass W) := PSimp ps_pass fun D σ H ⟨w, C, τ, R, E, h⟩ => h.nx' R E
theorem s_brk : PS X (.Break pos) (tSt N G .brk W) := PSimp ps_break fun D σ H ⟨w, C, τ, R, E, h⟩ => h w H σ (Ext.refl w) R E
theorem s_cnt : PS X (.Continue pos) (tSt N G .cnt W) := PSimp ps_continue fun D σ H ⟨w, C, τ, R, E, h⟩ => h w H σ (Ext.refl w) R E
theorem s_if {t : Tx} {sa sb : List Stmt} {ta tb : Ss} (hc : PT X a (tTx N G t W)) (ha : PSs X sa (tSs N G ta W)) (hb : PSs X sb (tSs N G tb W)) : PS X (.If a sa sb pos) (tSt N G (.ife t ta tb) W) :=
  PSimp (ps_if hc ha hb) fun D σ H ⟨w, C, τ, R, E, h⟩ => ⟨w, C, τ, R, E, h.ofR E fun w1 C1 d v H1 e1 R1 r1 h1 => by
    subst r1
    cases d with
    | true => exact iteT ⟨w1, C1, τ, R1, E.mono e1, h1⟩
    | false => exact iteF ⟨w1, C1, τ, R1, E.mono e1, h1⟩⟩
theorem s_nil : PSs X [] (tSs N G .nil W) := PSsimp pss_nil fun D σ H ⟨w, C, τ, R, E, h⟩ => h.nx' R E
theorem s_cons {st : Stmt} {rest : List Stmt} {ts : St} {tr : Ss} (h1 : PS X st (tSt N G ts W)) (h2 : PSs X rest (tSs N G tr W)) : PSs X (st :: rest) (tSs N G (.cons ts tr) W) :=
  PSsimp (pss_cons h1 h2) fun D σ H ⟨w, C, τ, R, E, h⟩ => ⟨w, C, τ, R, E, by
    have h : PostS N w W D ((exec G ts τ C).seq fun σ1 C1 => execs G tr σ1 C1) := h
    cases eo : exec G ts τ C with
    | nx τ1 C1 => rw [eo] at h; exact fun w1 H1 σ1 e1 R1 E1 => ⟨w1, C1, τ1, R1, E1, h.ext e1⟩
    | rt d C1 => rw [eo] at h; exact h
    | bk τ1 C1 => rw [eo] at h; exact h
    | ct τ1 C1 => rw [eo] at h; exact h
    | ex c fs τ1 C1 => rw [eo] at h; exact h
    | stuck => rw [eo] at h; exact h⟩
/-! ### name op= e -/
def rA (N : Nm) (o : Op) : TIp := fun x y H Q => ∃ (w : Wd) (C : Cells) (p q r : P), Rel N w C H ∧ RelT N w H p x ∧ RelT N w H q y ∧ augP o (some p) (some q) = some r ∧ ∀ v, RelP N w.F r v → Q v H
def augOf : Operator → Option Op
  | .Add => some .add
  | .Sub => some .sub
  | _ => none
theorem u_aug {op : Operator} {o : Op} (ho : augOf op = some o) : PIp X op (rA N o) := by
  intro pins s σ H x y v u Q I rx ry ⟨w, C, p, q, r, R, r1, r2, e, h⟩
  cases op <;> cases ho
  · cases p <;> cases q <;> first | (cases e; done) | skip
    · obtain rfl := r1
      obtain rfl := r2
      cases e
      exact iop_add pins s σ H _ _ v u Q I rx ry ⟨_, _, rfl, rfl, h _ rfl⟩
    · obtain rfl := r1
      obtain rfl := r2
      rename_i z1 z2
      have e : (if z1.length + z2.length ≤ big then some (P.str (z1 ++ z2)) else none) = some r := e
      by_cases hz : z1.length + z2.length ≤ big
      · rw [if_pos hz] at e
        cases e
        exact iop_add_str pins s σ H _ _ v u Q I rx ry ⟨_, _, rfl, rfl, by rw [← big_eq]; exact hz, h _ rfl⟩
      · rw [if_neg hz] at e; cases e
  · cases p <;> cases q <;> first | (cases e; done) | skip
    obtain rfl := r1
    obtain rfl := r2
    cases e
    exact iop_sub pins s σ H _ _ v u Q I rx ry ⟨_, _, rfl, rfl, h _ rfl⟩
theorem s_aug {op : Operator} {o : Op} (ho : augOf op = some o) (hN : X.N.Nodup) (hi : X.N[i]? = some x) (hx : X.env.scope.names.lookup x = some .local) (he : PE X a (tE N G ea W)) : PS X (.AugAssign (.Name x p) op a pos) (tSt N G (.aug i o ea) W) :=
  PSimp (ps_aug hN hi (.inl hx) he (u_aug (N := N) ho) (.inr hx)) fun D σ H ⟨w, C, τ, R, E, h⟩ => by
    have h : PostS N w W D (match τ[i]? with
      | some (some d) => O.ofR (eval G ea τ C) τ fun y C1 => match augP o (FW.view C1 d) (FW.view C1 y) with
        | some z => .nx (τ.set i (some (.p z))) C1
        | none => .stuck
      | _ => .stuck) := h
    cases ei : τ[i]? with
    | none => rw [ei] at h; exact h.elim
    | some od =>
      cases od with
      | none => rw [ei] at h; exact h.elim
      | some d =>
        rw [ei] at h
        obtain ⟨v, ev, rv⟩ := E.2 i d ei
        refine ⟨v, ev, w, C, τ, R, E, PostS.ofR h E fun w1 C1 y u H1 e1 R1 r1 h1 => ?_⟩
        have rv := rv.mono e1
        have h1 : PostS N w1 W D (match augP o (FW.view C1 d) (FW.view C1 y) with
          | some z => .nx (τ.set i (some (.p z))) C1
          | none => .stuck) := h1
        cases e2 : augP o (FW.view C1 d) (FW.view C1 y) with
        | none => rw [e2] at h1; exact h1.elim
        | some z =>
          rw [e2] at h1
          cases e3 : FW.view C1 d with
          | none => rw [e3] at e2; cases o <;> cases e2
          | some p =>
            cases e4 : FW.view C1 y with
            | none => rw [e3, e4] at e2; cases o <;> cases p <;> cases e2
            | some q =>
              rw [e3, e4] at e2
              exact ⟨w1, C1, p, q, z, R1, R1.view rv e3, R1.view r1 e4, e2, fun vz rz => h1.nx' R1 ((E.mono e1).set (d := .p z) rz i)⟩
/-! ### loops -/
theorem s_for {tgE iter : Expr} {it : Itx} {tg : Tg} {body : List Stmt} {tb : Ss} (hp : PassesOwn (model X.prog X.w) X.A X.env X.xe) (hc : X.calm = true) (hi : PI X tgE iter (tI N G it W)) (hg : PG X tgE (tgG X.K tg)) (hb : PSs X body (tSs N G tb W)) (hs : ∀ x, foldedSetIterable iter X.env x = pure x) :
    PS X (.For tgE iter body [] pos) (tSt N G (.for tg it tb) W) :=
  PSimp (ps_for hp hc hi hg hb hs) fun D σ H ⟨w, C, τ, R, E, h⟩ => by
    have h : PostS N w W D (O.ofR (evalI G it τ C) τ fun q C0 => (forL tg (execs G tb) q.1 τ (lockL q.2 C0).1).unlk (lockL q.2 C0).2) := h
    refine ⟨w, C, τ, R, E, ?_⟩
    cases er : evalI G it τ C with
    | stuck => rw [er] at h; exact h.elim
    | ex c fs C1 => rw [er] at h; exact fun w1 H1 cls dd e R x => h w1 H1 σ cls dd e R (E.mono e) x
    | ok q C0 =>
      rw [er] at h
      have h : PostS N w W D ((forL tg (execs G tb) q.1 τ (lockL q.2 C0).1).unlk (lockL q.2 C0).2) := h
      intro w1 H1 J e1 R1 ⟨hlst, hit⟩
      obtain ⟨w2, e2, R2, k2⟩ := R1.lock q.2
      obtain ⟨G', Y, walk, hG, hY⟩ := hit w2 e2 k2
      have h := h.ext e1
      have E2 := (E.mono e1).mono e2
      have un := fun {w3 : Wd} {C3 : Cells} {H3 : Hp} (e3 : Ext w2 w3) (R3 : Rel N w3 C3 H3) => R1.unlock hlst e2 k2 e3 R3
      refine for_it walk (fun i σ' H' => ∃ w' C' τ', Ext w2 w' ∧ Rel N w' C' H' ∧ RelE N w' τ' σ' ∧ PostS N w1 W D ((forL tg (execs G tb) (q.1.drop i) τ' C').unlk (lockL q.2 C0).2))
        ⟨w2, _, τ, Ext.refl _, R2, E2, h⟩ (fun i σ' H' _ ⟨w', C', τ', e', R', _, _⟩ => hG w' C' H' e' R') (fun i x σ' H2 H3 hi ⟨w', C', τ', e', R', E', hp⟩ y => ?_) (fun σ' H' ⟨w', C', τ', e', R', E', hp⟩ => ?_)
      · obtain ⟨w4, xp, hx, e4, R4, rx⟩ := hY w' C' H2 i x H3 e' R' y
        rw [drop_cons hx] at hp
        have hp : PostS N w1 W D ((match bindT tg xp τ' with
          | none => O.stuck
          | some σ1 => match execs G tb σ1 C' with
            | .nx σ2 C2 => forL tg (execs G tb) (q.1.drop (i + 1)) σ2 C2
            | .ct σ2 C2 => forL tg (execs G tb) (q.1.drop (i + 1)) σ2 C2
            | .bk σ2 C2 => .nx σ2 C2
            | o => o).unlk (lockL q.2 C0).2) := hp
        cases hb : bindT tg xp τ' with
        | none => rw [hb] at hp; exact hp.elim
        | some τ1 =>
          rw [hb] at hp
          have hp : PostS N w1 W D ((match execs G tb τ1 C' with
            | .nx σ2 C2 => forL tg (execs G tb) (q.1.drop (i + 1)) σ2 C2
            | .ct σ2 C2 => forL tg (execs G tb) (q.1.drop (i + 1)) σ2 C2
            | .bk σ2 C2 => .nx σ2 C2
            | o => o).unlk (lockL q.2 C0).2) := hp
          refine tg_ok R4 rx (E'.mono e4) hb fun σ2 E5 _ => ⟨w4, C', τ1, R4, E5, ?_⟩
          cases eo : execs G tb τ1 C' with
          | nx τ2 C2 => rw [eo] at hp; exact fun w5 H5 σ5 e5 R5 E5 => ⟨w5, C2, τ2, (e'.trans e4).trans e5, R5, E5, hp⟩
          | ct τ2 C2 => rw [eo] at hp; exact fun w5 H5 σ5 e5 R5 E5 => ⟨w5, C2, τ2, (e'.trans e4).trans e5, R5, E5, hp⟩
          | bk τ2 C2 =>
            rw [eo] at hp
            intro w5 H5 σ5 e5 R5 E5
            obtain ⟨Ru, eu⟩ := un ((e'.trans e4).trans e5) R5
            exact hp _ H5 σ5 eu Ru ⟨E5.1, fun i d hd => E5.2 i d hd⟩
          | rt d C2 =>
            rw [eo] at hp
            intro w5 H5 v e5 R5 rd
            obtain ⟨Ru, eu⟩ := un ((e'.trans e4).trans e5) R5
            exact hp _ H5 v eu Ru (by cases d <;> exact rd)
          | ex c fs τ2 C2 =>
            rw [eo] at hp
            intro w5 H5 σ5 cls dd e5 R5 E5 x
            obtain ⟨Ru, eu⟩ := un ((e'.trans e4).trans e5) R5
            exact hp _ H5 σ5 cls dd eu Ru ⟨E5.1, fun i d hd => E5.2 i d hd⟩ x
          | stuck => rw [eo] at hp; exact hp.elim
      · rw [List.drop_length] at hp
        have hp : PostS N w1 W D (.nx τ' (unlkL (lockL q.2 C0).2 C')) := hp
        obtain ⟨Ru, eu⟩ := un e' R'
        exact hp _ H' σ' eu Ru ⟨E'.1, fun i d hd => E'.2 i d hd⟩
theorem s_whl {t : Tx} {body : List Stmt} {tb : Ss} (hp : PassesOwn (model X.prog X.w) X.A X.env X.xe) (hc : PT X a (tTx N G t W)) (hb : PSs X body (tSs N G tb W)) : PS X (.While a body [] pos) (tSt N G (.whl t tb) W) :=
  PSimp (ps_while hp hc hb) fun D σ H ⟨w, C, τ, R, E, h⟩ => by
    have h : PostS N w W D (whlL (evalT G t) (execs G tb) G.fuel τ C) := h
    refine ⟨fun m σ' H' => ∃ w' C' τ', Rel N w' C' H' ∧ RelE N w' τ' σ' ∧ PostS N w' W D (whlL (evalT G t) (execs G tb) m τ' C'), ⟨G.fuel, w, C, τ, R, E, h⟩, fun m σ' H' ⟨w', C', τ', R', E', hp⟩ => ?_⟩
    cases m with
    | zero => exact hp.elim
    | succ m =>
      have hp : PostS N w' W D (O.ofR (evalT G t τ' C') τ' fun b C1 => if b then match execs G tb τ' C1 with
        | .nx σ2 C2 => whlL (evalT G t) (execs G tb) m σ2 C2
        | .ct σ2 C2 => whlL (evalT G t) (execs G tb) m σ2 C2
        | .bk σ2 C2 => .nx σ2 C2
        | o => o
      else .nx τ' C1) := hp
      refine ⟨w', C', τ', R', E', hp.ofR E' fun w1 C1 d v H1 e1 R1 r1 h1 => ?_⟩
      subst r1
      cases d with
      | false => exact iteF (PostS.nx' h1 R1 (E'.mono e1))
      | true =>
        refine iteT ⟨fun σ3 H3 => ∃ w3 C3 τ3, Rel N w3 C3 H3 ∧ RelE N w3 τ3 σ3 ∧ PostS N w3 W D (whlL (evalT G t) (execs G tb) m τ3 C3), fun σ3 H3 h3 => ⟨m, Nat.lt_succ_self m, h3⟩, w1, C1, τ', R1, E'.mono e1, ?_⟩
        have h1 : PostS N w1 W D (match execs G tb τ' C1 with
          | .nx σ2 C2 => whlL (evalT G t) (execs G tb) m σ2 C2
          | .ct σ2 C2 => whlL (evalT G t) (execs G tb) m σ2 C2
          | .bk σ2 C2 => .nx σ2 C2
          | o => o) := h1
        cases eo : execs G tb τ' C1 with
        | nx τ2 C2 => rw [eo] at h1; exact fun w5 H5 σ5 e5 R5 E5 => ⟨w5, C2, τ2, R5, E5, h1.ext e5⟩
        | ct τ2 C2 => rw [eo] at h1; exact fun w5 H5 σ5 e5 R5 E5 => ⟨w5, C2, τ2, R5, E5, h1.ext e5⟩
        | bk τ2 C2 => rw [eo] at h1; exact h1
        | rt d C2 => rw [eo] at h1; exact h1
        | ex c fs τ2 C2 => rw [eo] at h1; exact h1
        | stuck => rw [eo] at h1; exact h1.elim
end
end FW

set_option maxRecDepth 100000
set_option maxHeartbeats 2000000
/-! FwF2: stores into lists, dicts; methods of lists; a comprehension stored. -/
namespace FW
open PySem PySem.Spec PyProof.Rows L2
theorem RelKs.put {N : Nm} {F : Hp} {k : FW.Key} {x : P} {v : V} (rx : RelP N F x v) {l : List (FW.Key × P)} {kvs : List (FW.Key × V)} (r : RelKs N F l kvs) : RelKs N F (FW.putK l k x) (L2.putK kvs k v) := by
  have e := (getK_ok (k := k) r).1
  have hm : RelKs N F (l.map fun q => if q.1 = k then (q.1, x) else q) (kvs.map fun q => if q.1 = k then (q.1, v) else q) := by
    clear e
    induction l generalizing kvs with
    | nil =>
      cases kvs with
      | nil => trivial
      | cons _ _ => exact r.elim
    | cons q l ih =>
      cases kvs with
      | nil => exact r.elim
      | cons u kvs =>
        obtain ⟨a, b⟩ := q
        obtain ⟨c, d⟩ := u
        obtain ⟨rfl, r1, r2⟩ := r
        have ih := ih r2
        by_cases h : a = k
        · simp only [List.map_cons, h, if_true]; exact ⟨rfl, rx, ih⟩
        · simp only [List.map_cons, if_neg h]; exact ⟨rfl, r1, ih⟩
  have ha : RelKs N F (l ++ [(k, x)]) (kvs ++ [(k, v)]) := by
    clear e hm
    induction l generalizing kvs with
    | nil =>
      cases kvs with
      | nil => exact ⟨rfl, rx, trivial⟩
      | cons _ _ => exact r.elim
    | cons q l ih =>
      cases kvs with
      | nil => exact r.elim
      | cons u kvs =>
        obtain ⟨a, b⟩ := q
        obtain ⟨c, d⟩ := u
        obtain ⟨rfl, r1, r2⟩ := r
        exact ⟨rfl, r1, ih r2⟩
  have hany : ((l.any fun q => decide (q.1 = k)) = true) ↔ ((kvs.any fun q => decide (q.1 = k)) = true) := by
    clear e hm ha
    induction l generalizing kvs with
    | nil =>
      cases kvs with
      | nil => rfl
      | cons _ _ => exact r.elim
    | cons q l ih =>
      cases kvs with
      | nil => exact r.elim
      | cons u kvs =>
        obtain ⟨a, b⟩ := q
        obtain ⟨c, d⟩ := u
        obtain ⟨rfl, r1, r2⟩ := r
        have ih := ih r2
        simp only [List.any_cons, Bool.or_eq_true, ih]
  unfold FW.putK L2.putK
  by_cases h : (l.any fun q => decide (q.1 = k)) = true
  · rw [if_pos h, if_pos (hany.mp h)]; exact hm
  · rw [if_neg h, if_neg (fun z => h (hany.mpr z))]; exact ha
section
variable {X : Cx} {N : Nm} {G : Gm} {W : WX} {a b c e : Expr} {ea eb ec : Ex} {pos p apos : Pos} {i : Nat} {x : Str} {es : List Expr} {er : Exs}
def rSt : TSet := fun o i v H Q => rSetL o i v H Q ∨ rSetD o i v H Q
theorem set_st (hu : X.A.units + 1 < cLine) : PSet X rSt := fun pins s σ H o i v ov iv u Q I ro ri rv h => by
  rcases h with h | h
  · exact set_list pins s σ H o i v ov iv u Q I ro ri rv h
  · exact set_dict hu pins s σ H o i v ov iv u Q I ro ri rv h
theorem fz1_nx {C : Cells} {d : FW.D} {c f C'} : FW.fz1 C d ≠ .ex c f C' := by
  intro z
  cases d with
  | p _ => cases z
  | c n =>
    have z : (match C[n]? with
      | some ⟨.mu, o⟩ => FW.R.ok o (C.set n ⟨.fz, o⟩)
      | some ⟨.fz, o⟩ => FW.R.ok o C
      | _ => (FW.R.stuck : FW.R P)) = .ex c f C' := z
    split at z <;> cases z
theorem fzs_nx : ∀ {ds : List FW.D} {C : Cells} {c f C'}, FW.fzs C ds ≠ .ex c f C'
  | [], C, c, f, C', z => by cases z
  | d :: ds, C, c, f, C', z => by
    have z : ((FW.fz1 C d).bnd fun x C1 => (fzs C1 ds).bnd fun xs C2 => .ok (x :: xs) C2) = .ex c f C' := z
    cases ef : FW.fz1 C d with
    | ok x C1 =>
      rw [ef] at z
      have z : ((fzs C1 ds).bnd fun xs C2 => .ok (x :: xs) C2) = .ex c f C' := z
      cases eg : fzs C1 ds with
      | ok _ _ => rw [eg] at z; cases z
      | ex c' f' C'' => exact fzs_nx eg
      | stuck => rw [eg] at z; cases z
    | ex c' f' C'' => exact fz1_nx ef
    | stuck => rw [ef] at z; cases z
section
variable {w : Wd} {C : Cells} {H : Hp} {D : Ends} {τ : Env}
theorem PostS.fz1 {d : FW.D} {v : V} {k : P → Cells → O} (h : PostS N w W D (O.ofR (FW.fz1 C d) τ k)) (R : Rel N w C H) (rd : RelD N w d v) : ∃ w1 C1 x, Ext w w1 ∧ Rel N w1 C1 H ∧ RelP N w1.F x v ∧ PostS N w1 W D (k x C1) := by
  obtain ⟨w1, C1, x, ef, e, R1, r⟩ := R.fz1 rd (fun z => by rw [z] at h; exact h.elim)
  rw [ef] at h
  exact ⟨w1, C1, x, e, R1, r, PostS.ext h e⟩
theorem PostS.fzs {ds : List FW.D} {vs : List V} {k : List P → Cells → O} (h : PostS N w W D (O.ofR (FW.fzs C ds) τ k)) (R : Rel N w C H) (rd : RelDs N w ds vs) : ∃ w1 C1 xs, Ext w w1 ∧ Rel N w1 C1 H ∧ RelPs N w1.F xs vs ∧ PostS N w1 W D (k xs C1) := by
  cases eg : FW.fzs C ds with
  | stuck => rw [eg] at h; exact h.elim
  | ex c f C' => exact absurd eg fzs_nx
  | ok xs C3 =>
    obtain ⟨w3, C3', xs', e3, R3, r3, q3⟩ := Post.fzs (σ := []) (W := fun _ _ _ _ => True) (Rl := fun _ (a b : List P × Cells) => a = b) (kk := fun xs C => .ok (xs, C) C) (Q := fun q _ => q = (xs, C3)) R rd (by rw [eg]; exact fun _ _ b _ _ e => e.symm)
    have z := Post.done (b := (xs', C3')) q3 R3 rfl
    cases z
    rw [eg] at h
    exact ⟨w3, C3, xs, e3, R3, r3, PostS.ext h e3⟩
theorem PostS.put {a : FW.D} {v : V} {f : P → Option P} (h : PostS N w W D (putCell C a f τ)) (R : Rel N w C H) (rd : RelD N w a v) : ∃ n ad o o' u, v = .ref ad ∧ w.io[n]? = some ad ∧ C[n]? = some ⟨.mu, o⟩ ∧ f o = some o' ∧ H ad = some u ∧ RelO N w.F o u ∧ PostS N w W D (.nx τ (C.set n ⟨.mu, o'⟩)) := by
  cases a with
  | p _ => exact h.elim
  | c n =>
    have h : PostS N w W D (match C[n]? with
      | some ⟨.mu, o⟩ => match f o with
        | some o' => .nx τ (C.set n ⟨.mu, o'⟩)
        | none => .stuck
      | _ => .stuck) := h
    cases hc : C[n]? with
    | none => rw [hc] at h; exact h.elim
    | some cl =>
      obtain ⟨mo, o⟩ := cl
      rw [hc] at h
      cases mo <;> first | exact h.elim | skip
      have h : PostS N w W D (match f o with
        | some o' => .nx τ (C.set n ⟨.mu, o'⟩)
        | none => .stuck) := h
      cases ef : f o with
      | none => rw [ef] at h; exact h.elim
      | some o' =>
        rw [ef] at h
        obtain ⟨ad, ha, rfl⟩ := rd
        obtain ⟨hF, hL, u, hu, ru⟩ := R.cell n ad _ ha hc
        exact ⟨n, ad, o, o', u, rfl, ha, hc, ef, hu, ru, h⟩
end
theorem relKs_len {N : Nm} {F : Hp} : ∀ {l : List (FW.Key × P)} {kvs : List (FW.Key × V)}, RelKs N F l kvs → l.length = kvs.length
  | [], [], _ => rfl
  | (_, _) :: _, (_, _) :: _, ⟨_, _, b⟩ => congrArg (· + 1) (relKs_len b)
  | [], _ :: _, h => h.elim
  | _ :: _, [], h => h.elim
theorem s_asgI (hu : X.A.units + 1 < cLine) {tp : Pos} (he : PE X a (tE N G ea W)) (ho : PE X b (tE N G eb W)) (hi : PE X c (tE N G ec W)) (hs : swapsWithSole [.Subscript b c tp] a pos.line X.env = pure false) (hw : swappedStores [.Subscript b c tp] a X.env = pure none)
    (ha : ∀ v, assign (.Subscript b c tp) X.env v = (do
      let ov ← holding [v] (PySem.eval b X.env)
      let iv ← holding [v, ov] (PySem.eval c X.env)
      standAt tp
      holding [v, ov, iv] (setItem ov iv v)
      release [v, ov, iv] [])) : PS X (.Assign [.Subscript b c tp] a pos) (tSt N G (.asgI eb ec ea) W) :=
  PSimp (ps_asg he (pg_sub ho hi (set_st hu) ha) hs hw rfl) fun D σ H ⟨w, C, τ, R, E, h⟩ => ⟨w, C, τ, R, E, h.ofR E fun w1 C1 d v H1 e1 R1 r1 h1 => ⟨w1, C1, τ, R1, E.mono e1, h1.ofR (E.mono e1) fun w2 C2 o ov H2 e2 R2 r2 h2 =>
    ⟨w2, C2, τ, R2, (E.mono e1).mono e2, h2.ofR ((E.mono e1).mono e2) fun w3 C3 j jv H3 e3 R3 r3 h3 => by
      have E3 := ((E.mono e1).mono e2).mono e3
      have r1 := (r1.mono e2).mono e3
      have r2 := r2.mono e3
      cases ev : FW.view C3 j with
      | none => rw [ev] at h3; exact h3.elim
      | some q =>
        rw [ev] at h3
        have h3 : PostS N w3 W D (O.ofR (FW.fz1 C3 d) τ fun x C4 => putCell C4 o (fun o => setIx o q x) τ) := h3
        obtain ⟨w4, C4, x, e4, R4, rx, h4⟩ := PostS.fz1 h3 R3 r1
        have rj := (R3.view r3 ev)
        obtain ⟨n, ad, oo, o', u, rfl, ha, hc, es, hu, ru, h5⟩ := PostS.put h4 R4 (r2.mono e4)
        cases oo with
        | lst l =>
          cases q <;> first | (cases es; done) | skip
          rename_i k _
          obtain rfl := rj
          cases u <;> first | exact (show False from ru).elim | skip
          rename_i vs
          have ru : RelPs N w4.F l vs := ru
          have es : (L2.ixN l.length k).map (fun j => P.lst (l.set j x)) = some o' := es
          cases ek : L2.ixN l.length k with
          | none => rw [ek] at es; cases es
          | some m =>
            rw [ek] at es
            cases es
            refine .inl ⟨ad, vs, k, m, rfl, rfl, hu, by rw [← ru.len]; exact ek, ?_⟩
            exact h5 w4 _ σ (Ext.refl w4) (R4.put ha hc (o' := .lst (l.set m x)) (u := .lst (vs.set m v)) (RelPs.set rx m ru)) (E3.mono e4)
        | dct l =>
          have es : (keyP q).bind (fun k => if l.length < big then some (P.dct (FW.putK l k x)) else none) = some o' := es
          cases ek : keyP q with
          | none => rw [ek] at es; cases es
          | some k =>
            rw [ek] at es
            have es : (if l.length < big then some (P.dct (FW.putK l k x)) else none) = some o' := es
            by_cases hz : l.length < big
            · rw [if_pos hz] at es
              cases es
              obtain rfl := keyP_ok ek rj
              cases u <;> first | exact (show False from ru).elim | skip
              rename_i kvs
              have ru : RelKs N w4.F l kvs := ru
              refine .inr ⟨ad, _, rfl, .inl ⟨kvs, k, hu, rfl, by rw [← relKs_len ru, ← big_eq]; exact hz, rfl⟩, ?_⟩
              exact h5 w4 _ σ (Ext.refl w4) (R4.put ha hc (o' := .dct (FW.putK l k x)) (u := .dK (L2.putK kvs k v)) (RelKs.put rx ru)) (E3.mono e4)
            · rw [if_neg hz] at es; cases es
        | _ => cases es⟩⟩⟩
/-- o.append(e) -/
theorem few_args {es : List Expr} {env : PySem.Env} {cpos : Pos} (hs : es.all notStar = true) (hn : es.length < 30) : ((backTo cpos (starEach es env)).all (fun x => !x.1) && (backToKw cpos (keywordEach [] env)).all (fun x => x.1.isSome)
      && decide (es.length + ([] : List Keyword).length + (if ([] : List Keyword).isEmpty then 0 else 1) < 30)) = true := by
  have h1 : (backTo cpos (starEach es env)).all (fun x => !x.1) = true := by
    rw [star_all hs]
    unfold backTo
    rw [List.map_map, List.all_map, List.all_eq_true]
    intro x _
    rfl
  rw [h1]
  show (true && true && decide (es.length + 0 + 0 < 30)) = true
  simp [hn]
theorem s_append (ho : PE X a (tE N G ea W)) (hb : PE X b (tE N G eb W)) (h0 : notC0 a = true) (hs : notStar b = true) (hl : (apos.endLine == p.line) = true) : PS X (.Expr (.Call (.Attribute a "append" apos) [b] [] p) pos) (tSt N G (.mut .append ea (.cons eb .nil)) W) :=
  PSimp (ps_expr (pe_bm F.plainAttrs_list F.slot_list_append F.type_list_append mt_append ho (s_acons (star_cons hs) hb s_anil) (abase h0 _ _ _) (few_args (by simp [hs]) (by simp)) hl (star_cons hs) rfl) rfl) fun D σ H ⟨w, C, τ, R, E, h⟩ => ⟨w, C, τ, R, E, h.ofR E fun w1 C1 d v H1 e1 R1 r1 h1 => by
    cases ev : lstP (FW.view C1 d) with
    | none => rw [ev] at h1; exact h1.elim
    | some u0 =>
      rw [ev] at h1
      have h1 : PostS N w1 W D (O.ofR (evals G (.cons eb .nil) τ C1) τ fun ds C2 => O.ofR (FW.fzs C2 ds) τ fun xs C3 => putCell C3 d (mutF .append xs) τ) := h1
      have hv : ∃ l, FW.view C1 d = some (.lst l) := by
        cases e2 : FW.view C1 d with
        | none => rw [e2] at ev; cases ev
        | some q => rw [e2] at ev; cases q <;> first | (cases ev; done) | exact ⟨_, rfl⟩
      obtain ⟨l0, hv⟩ := hv
      have rl := R1.view r1 hv
      obtain ⟨ad, vs0, rfl, hv0, _⟩ := rl
      refine ⟨.inl ⟨rfl, vs0, .of hv0⟩, w1, C1, τ, R1, E.mono e1, h1.ofR (E.mono e1) fun w2 C2 ds us H2 e2 R2 r2 h2 => ?_⟩
      have E2 := (E.mono e1).mono e2
      obtain ⟨w3, C3, xs, e3, R3, r3, h3⟩ := PostS.fzs h2 R2 r2
      obtain ⟨n, ad', oo, o', u, e4, ha, hc, es, hu, ru, h5⟩ := PostS.put h3 R3 ((r1.mono e2).mono e3)
      cases e4
      cases oo <;> first | (cases es; done) | skip
      rename_i l
      cases u <;> first | exact (show False from ru).elim | skip
      rename_i vs
      have ru : RelPs N w3.F l vs := ru
      cases xs with
      | nil => cases es
      | cons xp rest =>
        cases rest with
        | cons _ _ => cases es
        | nil =>
          cases us with
          | nil => exact r3.elim
          | cons y us2 =>
            cases us2 with
            | cons _ _ => exact r3.2.elim
            | nil =>
              have es : (if l.length < big then some (l ++ [xp]) else none).map P.lst = some o' := es
              by_cases hz : l.length < big
              · rw [if_pos hz] at es
                cases es
                exact ⟨ad, vs, y, rfl, rfl, hu, by rw [← ru.len, ← big_eq]; exact hz, h5 w3 _ σ (Ext.refl w3) (R3.put ha hc (o' := .lst (l ++ [xp])) (u := .lst (vs ++ [y])) (RelPs.append ru ⟨r3.1, trivial⟩)) (E2.mono e3)⟩
              · rw [if_neg hz] at es; cases es⟩
/-- name = [.. for ..] -/
theorem s_asgLc {K : PySem.W.Frag} {py spos : Pos} {elt tgE iter : Expr} {ifs : List Expr} {scope : Scope} {own : List (Str × Nat)} {it : Itx} {tg : Tg} {cs : Txs} {ee : Ex} {kp : Bool} (hc : X.calm = true) (hN : X.N.Nodup) (hi0 : X.N[i]? = some x) (hx : X.env.scope.names.lookup x = some .local)
    (hsw : swapsWith (.ListComp elt [⟨tgE, iter, ifs, 0⟩] scope pos) (some (.Name x py)) spos.line X.env = pure true) (hi : PI X tgE iter (tI N G it W)) (ok : BlkOk X.N X.env.scope scope own)
    (hg : ∀ (s : Shared) (H : Hp) (C : Addr) (cl : List (Str × Addr)) (fp : List Addr), PG (X.blk s H scope (compEnvC scope cl C X.env) fp) tgE (tgG K tg))
    (ht : ∀ (s : Shared) (H : Hp) (C : Addr) (cl : List (Str × Addr)) (fp : List Addr), PTs (X.blk s H scope (compEnvC scope cl C X.env) fp) ifs (tTs N G cs WF))
    (he : ∀ (s : Shared) (H : Hp) (C : Addr) (cl : List (Str × Addr)) (fp : List Addr), PE (X.blk s H scope (compEnvC scope cl C X.env) fp) elt (tE N G ee WF)) (hs : ∀ x, foldedSetIterable iter X.env x = pure x) (htg : ∀ i ∈ tgI tg, i ∈ own.map (·.2)) :
    PS X (.Assign [.Name x py] (.ListComp elt [⟨tgE, iter, ifs, 0⟩] scope pos) spos) (tSt N G (.asg i (.comp kp (own.map (·.2)) tg it cs ee)) W) :=
  PSimp (ps_setLc hc hN hi0 hx hsw hi ok hg ht he hs) fun D σ H ⟨w, C, τ, R, E, h⟩ => s_comp (kp := kp) hc hN hi ok hg ht he hs htg ⟨w, C, τ, R, E, h.ofR E fun w1 C1 d v H1 e1 R1 r1 h1 => h1.nx' R1 ((E.mono e1).set r1 i)⟩
theorem s_lc {K : PySem.W.Frag} {elt tgE iter : Expr} {ifs : List Expr} {scope : Scope} {own : List (Str × Nat)} {it : Itx} {tg : Tg} {cs : Txs} {ee : Ex} {kp : Bool} (hc : X.calm = true) (hN : X.N.Nodup)
    (hi : PI X tgE iter (tI N G it W)) (ok : BlkOk X.N X.env.scope scope own)
    (hg : ∀ (s : Shared) (H : Hp) (C : Addr) (cl : List (Str × Addr)) (fp : List Addr), PG (X.blk s H scope (compEnvC scope cl C X.env) fp) tgE (tgG K tg))
    (ht : ∀ (s : Shared) (H : Hp) (C : Addr) (cl : List (Str × Addr)) (fp : List Addr), PTs (X.blk s H scope (compEnvC scope cl C X.env) fp) ifs (tTs N G cs WF))
    (he : ∀ (s : Shared) (H : Hp) (C : Addr) (cl : List (Str × Addr)) (fp : List Addr), PE (X.blk s H scope (compEnvC scope cl C X.env) fp) elt (tE N G ee WF)) (hs : ∀ x, foldedSetIterable iter X.env x = pure x) (htg : ∀ i ∈ tgI tg, i ∈ own.map (·.2)) :
    PE X (.ListComp elt [⟨tgE, iter, ifs, 0⟩] scope pos) (tE N G (.comp kp (own.map (·.2)) tg it cs ee) W) :=
  PEimp (pe_lc hc hN hi ok hg ht he hs) fun σ H Q h => s_comp (kp := kp) hc hN hi ok hg ht he hs htg h
theorem notLc {a : Expr} {t : Option Expr} {l : Nat} {env : PySem.Env} (h : (match a with
  | .ListComp _ _ _ _ | .SetComp _ _ _ _ | .DictComp _ _ _ _ _ => false
  | _ => true) = true) : swapsWith a t l env = pure false := by
  cases a <;> first | (cases h; done) | rfl
end
end FW

set_option maxRecDepth 100000
set_option maxHeartbeats 2000000
/-! FwG1: expressions into the small language, with their proofs. -/
namespace FW
open PySem PySem.Spec PyProof.Rows L2
/-- a global name's meaning -/
inductive GlI where
  | fn (i : Nat)
  | cls (c : Nat)
  | con (x : P)
/-- what a program's names stand for: globals, built-ins that are no globals, attribute names, static methods -/
structure Gc where
  gl : List (Str × GlI)
  bn : List Str
  nms : List Str
  sm : List ((Nat × Nat) × Nat)
/-- a block: its slots' names, its scope, the names whose lists are changed -/
structure Cc where
  N : List Str
  sc : Scope
  mt : List Str
  g : Gc
def GlOk (X : Cx) (N : Nm) (G : Gm) (lv : Nat) (x : Str) : GlI → Prop
  | .fn f => ∃ fa, X.mg x = some (.ref fa) ∧ FnAt X N G.call lv fa f
  | .cls c => X.mg x = some (.ref (N.ca c))
  | .con p => ∃ v u, X.mg x = some u ∧ RelV v u ∧ cV p = some v
structure Gok (g : Gc) (X : Cx) (N : Nm) (G : Gm) (lv : Nat) : Prop where
  gl : ∀ x i, g.gl.lookup x = some i → GlOk X N G lv x i
  bn : ∀ x ∈ g.bn, X.mg x = none
  sm : ∀ cn mn f m, g.sm.lookup (cn, mn) = some f → g.nms[mn]? = some m → G.look cn mn = some (.stat f) ∧ ∃ fa, SMet X.K (N.ca cn) m fa ∧ FnAt X N G.call lv fa f
  sub : SubOk X.K N G.sub
structure Cok (c : Cc) (X : Cx) (N : Nm) (G : Gm) (W : WX) (lv : Nat) : Prop where
  hK : X.K = N.K
  hN : X.N = c.N
  nd : c.N.Nodup
  sc : X.env.scope = c.sc
  calm : X.calm = true
  room : Room lv X.A
  tk : Takes X W
  gok : Gok c.g X N G lv
def Cc.blk (c : Cc) (scope : Scope) : Cc := { c with sc := relS scope c.sc }
theorem Cok.blk {c : Cc} {X : Cx} {N : Nm} {G : Gm} {W : WX} {lv : Nat} (h : Cok c X N G W lv) (s : Shared) (H : Hp) (scope : Scope) (cl : List (Str × Addr)) (C : Addr) (fp : List Addr) : Cok (c.blk scope) (X.blk s H scope (compEnvC scope cl C X.env) fp) N G WF lv :=
  ⟨h.hK, h.hN, h.nd, by show relS scope X.env.scope = relS scope c.sc; rw [h.sc], h.calm, h.room, fun u s' ⟨_, _, _, _, _, _, _, _, _, _, _, _, _, _, _, _, w⟩ => w.elim, ⟨h.gok.gl, h.gok.bn, h.gok.sm, h.gok.sub⟩⟩
abbrev Pr (c : Cc) (F : Cx → Nm → Gm → WX → Prop) : Prop := ∀ X N G W lv, Cok c X N G W lv → F X N G W
abbrev CE (c : Cc) (e : Expr) := { x : Ex // Pr c fun X N G W => PE X e (tE N G x W) }
abbrev CA (c : Cc) (es : List Expr) := { x : Exs // es.all notStar = true ∧ Pr c fun X N G W => PA X es (tAs N G x W) }
abbrev CT (c : Cc) (e : Expr) := { x : Tx // Pr c fun X N G W => PT X e (tTx N G x W) }
abbrev CW (c : Cc) (e : Expr) := { x : Tx // Pr c fun X N G W => PW X e (tTx N G x W) }
abbrev CTs (c : Cc) (es : List Expr) := { x : Txs // Pr c fun X N G W => PTs X es (tTs N G x W) }
abbrev CI (c : Cc) (tg e : Expr) := { x : Itx // (Pr c fun X N G W => PI X tg e (tI N G x W)) ∧ ∀ env v, foldedSetIterable e env v = pure v }
abbrev CG (c : Cc) (tg : Expr) := { x : Tg // Pr c fun X N G W => PG X tg (tgG X.K x) }
/-! ### names -/
def ixOf (x : Str) : List Str → Option Nat
  | [] => none
  | y :: r => if x = y then some 0 else (ixOf x r).map (· + 1)
theorem ixOf_ok {x : Str} : ∀ {l : List Str} {i : Nat}, ixOf x l = some i → l[i]? = some x
  | [], _, h => by cases h
  | y :: r, i, h => by
    unfold ixOf at h
    by_cases q : x = y
    · rw [if_pos q] at h; cases h; subst q; rfl
    · rw [if_neg q] at h
      cases e : ixOf x r with
      | none => rw [e] at h; cases h
      | some j => rw [e] at h; cases h; exact (ixOf_ok (l := r) e : r[j]? = some x)
def okName (x : Str) : Bool := !(x == ("__debug__" : Str)) && !(x == ("__classdict__" : Str))
def visB (sc : Scope) (x : Str) : Bool := match sc.names.lookup x with
  | some .local | some .cell | some .free => true
  | _ => false
theorem visB_ok {sc : Scope} {x : Str} (h : visB sc x = true) : Vis sc x := by
  unfold visB at h
  split at h
  · exact .inl (by assumption)
  · exact .inr (.inl (by assumption))
  · exact .inr (.inr (by assumption))
  · cases h
def glB (sc : Scope) (x : Str) : Bool := decide (sc.names.lookup x = some .globalImplicit)
theorem Cok.gl_ok {c : Cc} {X : Cx} {N : Nm} {G : Gm} {W : WX} {lv : Nat} (h : Cok c X N G W lv) {x : Str} (k : glB c.sc x = true) : Gl X x := by
  show X.env.scope.names.lookup x = some .globalImplicit
  rw [h.sc]
  exact of_decide_eq_true k
theorem okName1 {x : Str} (h : okName x = true) : (x == ("__debug__" : Str)) = false := by
  unfold okName at h; simp only [Bool.and_eq_true, Bool.not_eq_true'] at h; exact h.1
theorem okName2 {x : Str} (h : okName x = true) : (x == ("__classdict__" : Str)) = false := by
  unfold okName at h; simp only [Bool.and_eq_true, Bool.not_eq_true'] at h; exact h.2
def gd {α : Type} (b : Bool) (k : b = true → Option α) : Option α := if h : b = true then k h else none
theorem cV_pe {X : Cx} {x : Str} {p : P} {v : V} {u : Value} {pos : Pos} {N : Nm} {G : Gm} {W : WX} (hg : Gl X x) (hm : X.mg x = some u) (r : RelV v u) (hv : cV p = some v) (hd : (x == ("__debug__" : Str)) = false) : PE X (.Name x pos) (tE N G (.cst p) W) := s_cst hv (pe_glob hg hm r hd)
def cName (c : Cc) (x : Str) (pos : Pos) : Option (CE c (.Name x pos)) := gd (okName x) fun ho => match hi : ixOf x c.N with
  | some i => gd (visB c.sc x) fun hv => some ⟨.var i, fun X N G W lv h => s_var (by rw [h.hN]; exact ixOf_ok hi) (by rw [h.sc]; exact visB_ok hv) (okName1 ho) (okName2 ho)⟩
  | none => gd (glB c.sc x) fun hg => match hl : c.g.gl.lookup x with
    | some (.con p) => some ⟨.cst p, fun X N G W lv h => by
        obtain ⟨v, u, h1, h2, h3⟩ := h.gok.gl x _ hl
        exact cV_pe (h.gl_ok hg) h1 h2 h3 (okName1 ho)⟩
    | _ => none
def cConst (c : Cc) (k : Nat) (pos : Pos) : (v : Const) → Option (CE c (.Constant v k pos))
  | .none => some ⟨.cst .non, fun X N G W lv h => s_cst rfl pe_non⟩
  | .bool b => some ⟨.cst (.bl b), fun X N G W lv h => s_cst rfl pe_bl⟩
  | .int i => some ⟨.cst (.int i), fun X N G W lv h => s_cst rfl pe_int⟩
  | .str z => some ⟨.cst (.str z), fun X N G W lv h => s_cst rfl pe_str⟩
  | _ => none
/-! ### lists of expressions -/
def cAs (c : Cc) (f : (e : Expr) → Option (CE c e)) : (es : List Expr) → Option (CA c es)
  | [] => some ⟨.nil, rfl, fun X N G W lv h => s_anil⟩
  | e :: es => gd (notStar e) fun hs => match f e, cAs c f es with
    | some a, some r => some ⟨.cons a.1 r.1, by simp only [List.all_cons, hs, r.2.1, Bool.and_self], fun X N G W lv h => s_acons (star_cons hs) (a.2 X N G W lv h) (r.2.2 X N G W lv h)⟩
    | _, _ => none
def cAnd (c : Cc) (pos : Pos) (f : (e : Expr) → Option (CE c e)) : (es : List Expr) → Option (CE c (.BoolOp .And es pos))
  | [] => none
  | [e] => match f e with
    | some a => some ⟨a.1, fun X N G W lv h => pe_one (a.2 X N G W lv h)⟩
    | none => none
  | e :: b :: r => match f e, cAnd c pos f (b :: r) with
    | some a, some q => some ⟨.and a.1 q.1, fun X N G W lv h => s_and (a.2 X N G W lv h) (q.2 X N G W lv h)⟩
    | _, _ => none
def cOr (c : Cc) (pos : Pos) (f : (e : Expr) → Option (CE c e)) : (es : List Expr) → Option (CE c (.BoolOp .Or es pos))
  | [] => none
  | [e] => match f e with
    | some a => some ⟨a.1, fun X N G W lv h => pe_one (a.2 X N G W lv h)⟩
    | none => none
  | e :: b :: r => match f e, cOr c pos f (b :: r) with
    | some a, some q => some ⟨.or a.1 q.1, fun X N G W lv h => s_or (a.2 X N G W lv h) (q.2 X N G W lv h)⟩
    | _, _ => none
def cAndT (c : Cc) (pos : Pos) (f : (e : Expr) → Option (CT c e)) : (es : List Expr) → Option (CW c (.BoolOp .And es pos))
  | [] => none
  | [e] => match f e with
    | some a => some ⟨a.1, fun X N G W lv h => pw_and1 (a.2 X N G W lv h)⟩
    | none => none
  | e :: b :: r => match f e, cAndT c pos f (b :: r) with
    | some a, some q => some ⟨.and a.1 q.1, fun X N G W lv h => s_tand (a.2 X N G W lv h) (q.2 X N G W lv h)⟩
    | _, _ => none
def cOrT (c : Cc) (pos : Pos) (f : (e : Expr) → Option (CT c e)) : (es : List Expr) → Option (CW c (.BoolOp .Or es pos))
  | [] => none
  | [e] => match f e with
    | some a => some ⟨a.1, fun X N G W lv h => pw_or1 (a.2 X N G W lv h)⟩
    | none => none
  | e :: b :: r => match f e, cOrT c pos f (b :: r) with
    | some a, some q => some ⟨.or a.1 q.1, fun X N G W lv h => s_tor (a.2 X N G W lv h) (q.2 X N G W lv h)⟩
    | _, _ => none
/-! ### targets -/
def locB (sc : Scope) (x : Str) : Bool := decide (sc.names.lookup x = some .local)
theorem pg_nm {c : Cc} {X : Cx} {N : Nm} {G : Gm} {W : WX} {lv : Nat} (h : Cok c X N G W lv) {x : Str} {i : Nat} {pos : Pos} (hi : ixOf x c.N = some i) (hl : locB c.sc x = true) : PG X (.Name x pos) (gName i) := by
  have hl : X.env.scope.names.lookup x = some .local := by rw [h.sc]; exact of_decide_eq_true hl
  exact pg_name (by rw [h.hN]; exact h.nd) (by rw [h.hN]; exact ixOf_ok hi) (.inl hl) (.inr hl)
/-- names in a tuple of targets -/
def cNs (c : Cc) : (es : List Expr) → Option { is : List Nat // is.length = es.length ∧ (∀ env, (assignEach es env).length = es.length ∧ (assignEach es env).findIdx? (·.1) = none) ∧ Pr c fun X N G W => PGs X es (gNs is) }
  | [] => some ⟨[], rfl, fun env => ⟨rfl, rfl⟩, fun X N G W lv h => pgs_nil⟩
  | .Name x p :: es => match hi : ixOf x c.N, cNs c es with
    | some i, some r => gd (locB c.sc x) fun hl => some ⟨i :: r.1, congrArg (· + 1) r.2.1, fun env => ⟨congrArg (· + 1) (r.2.2.1 env).1, by
        show ((false, assign (.Name x p) env) :: assignEach es env).findIdx? (·.1) = none
        rw [List.findIdx?_cons, (r.2.2.1 env).2]
        rfl⟩, fun X N G W lv h => pgs_cons (pg_nm h hi hl) (r.2.2.2 X N G W lv h) rfl⟩
    | _, _ => none
  | _ :: _ => none
def cG (c : Cc) : (e : Expr) → Option (CG c e)
  | .Name x p => match hi : ixOf x c.N with
    | some i => gd (locB c.sc x) fun hl => some ⟨.nm i, fun X N G W lv h => pg_nm h hi hl⟩
    | none => none
  | .Tuple es k p => match cNs c es with
    | some r => some ⟨.tp r.1, fun X N G W lv h => pg_tup (pos := p) (k := k) (n := r.1.length) h.calm (r.2.2.2 X N G W lv h) ((r.2.2.1 X.env).1.trans r.2.1.symm) (r.2.2.1 X.env).2⟩
    | none => none
  | _ => none
end FW

set_option maxRecDepth 100000
set_option maxHeartbeats 2000000
/-! FwG2: expressions into the small language: calls, comprehensions, tests; the step. -/
namespace FW
open PySem PySem.Spec PyProof.Rows L2
structure Cmp where
  E : (c : Cc) → Bool → (e : Expr) → Option (CE c e)
  T : (c : Cc) → (e : Expr) → Option (CT c e)
def plainB : Expr → Bool
  | .Slice _ _ _ _ => false
  | _ => true
theorem plainB_ok {b : Expr} (h : plainB b = true) : PlainIx b := by
  intro o i
  cases b <;> first | rfl | cases h
theorem Cok.lt {c : Cc} {X : Cx} {N : Nm} {G : Gm} {W : WX} {lv : Nat} (h : Cok c X N G W lv) : X.A.units + 64 < cLine := h.room.units
def cBin (r : Cmp) (c : Cc) (a : Expr) (op : Operator) (b : Expr) (pos : Pos) : Option (CE c (.BinOp a op b pos)) := match ho : opOf op, r.E c false a, r.E c false b with
  | some o, some x, some y => some ⟨.bin o x.1 y.1, fun X N G W lv h => s_bin h.hK ho (x.2 X N G W lv h) (y.2 X N G W lv h)⟩
  | _, _, _ => none
def cCmp (r : Cmp) (c : Cc) (a : Expr) (pos : Pos) : (ops : List CmpOp) → (bs : List Expr) → Option (CE c (.Compare a ops bs pos))
  | [op], [b] => gd (!behindInMarks op b) fun hm => match ho : cmpOf op, r.E c false a, r.E c false b with
    | some o, some x, some y => some ⟨.cmp o x.1 y.1, fun X N G W lv h => s_cmp h.hK h.lt ho (by simpa using hm) (x.2 X N G W lv h) (y.2 X N G W lv h)⟩
    | _, _, _ => none
  | [op, op'], [b, d] => gd (!lastMarks [op, op'] [b, d]) fun hm => match ho : cmpOf op, ho' : cmpOf op', r.E c false a, r.E c false b, r.E c false d with
    | some o, some o', some x, some y, some z => some ⟨.chn o o' x.1 y.1 z.1, fun X N G W lv h => s_chn h.hK h.lt ho ho' (by simpa using hm) (x.2 X N G W lv h) (y.2 X N G W lv h) (z.2 X N G W lv h)⟩
    | _, _, _, _, _ => none
  | _, _ => none
def cNeg (r : Cmp) (c : Cc) (a : Expr) (pos : Pos) : Option (CE c (.UnaryOp .USub a pos)) := match r.E c false a with
  | some x => some ⟨.neg x.1, fun X N G W lv h => s_neg (x.2 X N G W lv h)⟩
  | none => none
def cNot (r : Cmp) (c : Cc) (a : Expr) (pos : Pos) : Option (CE c (.UnaryOp .Not a pos)) := match r.E c false a with
  | some x => some ⟨.not x.1, fun X N G W lv h => s_not (x.2 X N G W lv h)⟩
  | none => none
def cIte (r : Cmp) (c : Cc) (k : Bool) (t a b : Expr) (pos : Pos) : Option (CE c (.IfExp t a b pos)) := match r.T c t, r.E c k a, r.E c k b with
  | some z, some x, some y => some ⟨.ite z.1 x.1 y.1, fun X N G W lv h => s_ite (z.2 X N G W lv h) (x.2 X N G W lv h) (y.2 X N G W lv h)⟩
  | _, _, _ => none
def cTup (r : Cmp) (c : Cc) (es : List Expr) (k : Nat) (pos : Pos) : Option (CE c (.Tuple es k pos)) := match cAs c (r.E c false) es with
  | some x => some ⟨.tup x.1, fun X N G W lv h => s_tup (x.2.2 X N G W lv h)⟩
  | none => none
def cLst (r : Cmp) (c : Cc) (k : Bool) (es : List Expr) (pos : Pos) : Option (CE c (.List es pos)) := match cAs c (r.E c false) es with
  | some x => some ⟨.lst k x.1, fun X N G W lv h => s_lst (x.2.2 X N G W lv h)⟩
  | none => none
def cOp (r : Cmp) (c : Cc) : (o : Option Expr) → Option { x : Ex // Pr c fun X N G W => OpE X N G W o x }
  | none => some ⟨.cst .non, fun X N G W lv h => rfl⟩
  | some e => match r.E c false e with
    | some x => gd (!isOff x.1) fun ho => some ⟨x.1, fun X N G W lv h => ⟨by simpa using ho, x.2 X N G W lv h⟩⟩
    | none => none
def cSub (r : Cmp) (c : Cc) (k : Bool) (a : Expr) (pos : Pos) : (b : Expr) → Option (CE c (.Subscript a b pos))
  | .Slice lo hi none p2 => match r.E c false a, cOp r c lo, cOp r c hi with
    | some x, some y, some z => some ⟨.slc k x.1 y.1 z.1, fun X N G W lv h => s_slc h.hK (x.2 X N G W lv h) (y.2 X N G W lv h) (z.2 X N G W lv h)⟩
    | _, _, _ => none
  | b => gd (plainB b) fun hp => match r.E c false a, r.E c false b with
    | some x, some y => some ⟨.idx x.1 y.1, fun X N G W lv h => s_idx h.hK h.lt (plainB_ok hp) (x.2 X N G W lv h) (y.2 X N G W lv h)⟩
    | _, _ => none
/-! ### classes that isinstance is asked about -/
def tyOf (x : Str) : Option Ty := if x = "int" then some .int else if x = "bool" then some .bl else if x = "str" then some .str else if x = "list" then some .lst else if x = "tuple" then some .tup else if x = "dict" then some .dct else none
theorem tyOf_ok {x : Str} {t : Ty} (h : tyOf x = some t) : bootBuiltins x = some (.type (tyS t)) ∧ x ≠ "__name__" ∧ (x == ("__debug__" : Str)) = false := by
  unfold tyOf at h
  by_cases h1 : x = "int"
  · subst h1; cases h; decide +kernel
  rw [if_neg h1] at h
  by_cases h2 : x = "bool"
  · subst h2; cases h; decide +kernel
  rw [if_neg h2] at h
  by_cases h3 : x = "str"
  · subst h3; cases h; decide +kernel
  rw [if_neg h3] at h
  by_cases h4 : x = "list"
  · subst h4; cases h; decide +kernel
  rw [if_neg h4] at h
  by_cases h5 : x = "tuple"
  · subst h5; cases h; decide +kernel
  rw [if_neg h5] at h
  by_cases h6 : x = "dict"
  · subst h6; cases h; decide +kernel
  rw [if_neg h6] at h
  cases h
abbrev CK (c : Cc) (e : Expr) := { kd : Kd // Pr c fun X N G W => KdE X N e kd }
def cKd (c : Cc) : (e : Expr) → Option (CK c e)
  | .Name x pos => gd (okName x && glB c.sc x) fun hg => match hl : c.g.gl.lookup x with
    | some (.cls cn) => some ⟨.own cn, fun X N G W lv h => by
        simp only [Bool.and_eq_true] at hg
        exact ⟨.ref (N.ca cn), pe_glob (h.gl_ok hg.2) (h.gok.gl x _ hl) rfl (okName1 hg.1), .own _⟩⟩
    | some _ => none
    | none => gd (decide (x ∈ c.g.bn)) fun hb => match ht : tyOf x with
      | some t => some ⟨.ty t, fun X N G W lv h => by
          simp only [Bool.and_eq_true] at hg
          obtain ⟨b1, b2, b3⟩ := tyOf_ok ht
          exact ⟨.ty (tyS t), pe_bltn (h.gl_ok hg.2) (h.gok.bn x (of_decide_eq_true hb)) b1 rfl b2 b3, .ty _⟩⟩
      | none => none
  | _ => none
def cKds (c : Cc) : (es : List Expr) → Option { ks : List Kd // Pr c fun X N G W => KdEs X N es ks }
  | [] => some ⟨[], fun _ _ _ _ _ _ => trivial⟩
  | e :: es => gd (notStar e) fun hs => match cKd c e, cKds c es with
    | some k, some r => some ⟨k.1 :: r.1, fun X N G W lv h => ⟨k.2 X N G W lv h, hs, r.2 X N G W lv h⟩⟩
    | _, _ => none
def cIsi (r : Cmp) (c : Cc) (p pos : Pos) : (es : List Expr) → Option (CE c (.Call (.Name "isinstance" p) es [] pos))
  | [a, .Tuple ks k p2] => gd (glB c.sc "isinstance" && decide (("isinstance" : Str) ∈ c.g.bn) && notStar a && decide (ks.length ≤ 1000)) fun hg => match r.E c false a, cKds c ks with
    | some x, some ⟨kd :: kds, hk⟩ => some ⟨.isi x.1 (kd :: kds), fun X N G W lv h => by
        simp only [Bool.and_eq_true, decide_eq_true_eq] at hg
        exact s_isiT h.hK (h.gl_ok hg.1.1.1) (h.gok.bn _ hg.1.1.2) h.gok.sub (x.2 X N G W lv h) (hk X N G W lv h) hg.2 hg.1.2⟩
    | _, _ => none
  | [a, b] => gd (glB c.sc "isinstance" && decide (("isinstance" : Str) ∈ c.g.bn) && notStar a && notStar b) fun hg => match r.E c false a, cKd c b with
    | some x, some kd => some ⟨.isi x.1 [kd.1], fun X N G W lv h => by
        simp only [Bool.and_eq_true, decide_eq_true_eq] at hg
        exact s_isi1 h.hK (h.gl_ok hg.1.1.1) (h.gok.bn _ hg.1.1.2) h.gok.sub (x.2 X N G W lv h) (kd.2 X N G W lv h) (by simp [hg.1.2, hg.2])⟩
    | _, _ => none
  | _ => none
/-! ### calls -/
def cFn (r : Cmp) (c : Cc) (k : Bool) (x : Str) (p pos : Pos) (f : Nat) (ho : okName x = true) (hg : glB c.sc x = true) (hl : c.g.gl.lookup x = some (.fn f)) : (es : List Expr) → Option (CE c (.Call (.Name x p) es [] pos))
  | [] => some ⟨.call f k .nil, fun X N G W lv h => by
      obtain ⟨fa, hm, F⟩ := h.gok.gl x _ hl
      exact s_call0 F h.room h.tk (h.gl_ok hg) hm (okName1 ho)⟩
  | e :: es => match cAs c (r.E c false) (e :: es) with
    | some a => some ⟨.call f k a.1, fun X N G W lv h => by
        obtain ⟨fa, hm, F⟩ := h.gok.gl x _ hl
        exact s_call F h.room h.tk (h.gl_ok hg) hm (okName1 ho) (a.2.2 X N G W lv h) a.2.1⟩
    | none => none
def cBt (r : Cmp) (c : Cc) (k : Bool) (x : Str) (p pos : Pos) (hg : glB c.sc x = true) (hb : x ∈ c.g.bn) : (es : List Expr) → Option (CE c (.Call (.Name x p) es [] pos))
  | [] => none
  | e :: es => match ht : btOf x, cAs c (r.E c false) (e :: es) with
    | some bt, some a => some ⟨.bt bt k a.1, fun X N G W lv h => s_bt h.hK h.calm ht (h.gl_ok hg) (h.gok.bn x hb) (a.2.2 X N G W lv h) a.2.1⟩
    | _, _ => none
def cNmCall (r : Cmp) (c : Cc) (k : Bool) (x : Str) (p pos : Pos) (es : List Expr) : Option (CE c (.Call (.Name x p) es [] pos)) :=
  if hi : x = "isinstance" then
    match cIsi r c p pos es with
    | some y => some ⟨y.1, by subst hi; exact y.2⟩
    | none => none
  else gd (okName x && glB c.sc x) fun hg => match hl : c.g.gl.lookup x with
    | some (.fn f) => cFn r c k x p pos f (by simp only [Bool.and_eq_true] at hg; exact hg.1) (by simp only [Bool.and_eq_true] at hg; exact hg.2) hl es
    | some _ => none
    | none => gd (decide (x ∈ c.g.bn)) fun hb => cBt r c k x p pos (by simp only [Bool.and_eq_true] at hg; exact hg.2) (of_decide_eq_true hb) es
/-- C.m(e, ..) of a static method -/
def cStat (r : Cmp) (c : Cc) (k : Bool) (x m : Str) (p apos pos : Pos) : (es : List Expr) → Option (CE c (.Call (.Attribute (.Name x p) m apos) es [] pos))
  | [] => none
  | e :: es => gd (okName x && glB c.sc x && decide ((e :: es).length < 30) && (apos.endLine == pos.line)) fun hg => match hl : c.g.gl.lookup x, hmn : ixOf m c.g.nms, cAs c (r.E c false) (e :: es) with
    | some (.cls cn), some mn, some a => match hf : c.g.sm.lookup (cn, mn) with
      | some f => some ⟨.stat cn mn k a.1, fun X N G W lv h => by
          simp only [Bool.and_eq_true, decide_eq_true_eq] at hg
          obtain ⟨h1, fa, h2, F⟩ := h.gok.sm cn mn f m hf (ixOf_ok hmn)
          exact s_stat F h1 h.room h.tk (h.gl_ok hg.1.1.2) (h.gok.gl x _ hl) h2 (okName1 hg.1.1.1) (a.2.2 X N G W lv h) a.2.1 hg.1.2 hg.2⟩
      | none => none
    | _, _, _ => none
def cUpper (r : Cmp) (c : Cc) (a : Expr) (apos pos : Pos) : Option (CE c (.Call (.Attribute a "upper" apos) [] [] pos)) := gd (notC0 a && (apos.endLine == pos.line)) fun hg => match r.E c false a with
  | some x => some ⟨.upper x.1, fun X N G W lv h => by
      simp only [Bool.and_eq_true] at hg
      exact s_upper (x.2 X N G W lv h) (abase hg.1 _ _ _) hg.2⟩
  | none => none
def cMeth (r : Cmp) (c : Cc) (k : Bool) (a : Expr) (m : Str) (apos pos : Pos) (es : List Expr) : Option (CE c (.Call (.Attribute a m apos) es [] pos)) :=
  if hu : m = "upper" ∧ es = [] then
    match cUpper r c a apos pos with
    | some y => some ⟨y.1, by obtain ⟨h1, h2⟩ := hu; subst h1 h2; exact y.2⟩
    | none => none
  else match a with
    | .Name x p => cStat r c k x m p apos pos es
    | _ => none
def cCall (r : Cmp) (c : Cc) (k : Bool) (es : List Expr) (pos : Pos) : (f : Expr) → Option (CE c (.Call f es [] pos))
  | .Name x p => cNmCall r c k x p pos es
  | .Attribute a m apos => cMeth r c k a m apos pos es
  | _ => none
/-! ### what is walked -/
theorem notSet {e : Expr} (h : (match e with
  | .Set _ _ _ => false
  | _ => true) = true) : ∀ env v, foldedSetIterable e env v = pure v := by
  intro env v
  cases e <;> first | rfl | cases h
def isTupT : Expr → Bool
  | .Tuple _ _ _ => true
  | _ => false
def cItv (r : Cmp) (c : Cc) (tg e : Expr) : Option (CI c tg e) := gd (match e with
  | .Set _ _ _ => false
  | _ => true) fun hs => match r.E c false e with
  | some x => some ⟨.val x.1, fun X N G W lv h => s_ival h.hK (x.2 X N G W lv h), notSet hs⟩
  | none => none
def cItRng (r : Cmp) (c : Cc) (tg : Expr) (p pos : Pos) : (es : List Expr) → Option (CI c tg (.Call (.Name "range" p) es [] pos))
  | [a] => gd (glB c.sc "range" && decide (("range" : Str) ∈ c.g.bn) && notStar a) fun hg => match r.E c false a with
    | some x => some ⟨.rng1 x.1, fun X N G W lv h => by
        simp only [Bool.and_eq_true, decide_eq_true_eq] at hg
        exact s_rng1 (h.gl_ok hg.1.1) (h.gok.bn _ hg.1.2) (x.2 X N G W lv h) hg.2, fun _ _ => rfl⟩
    | none => none
  | [a, b] => gd (glB c.sc "range" && decide (("range" : Str) ∈ c.g.bn) && notStar a && notStar b) fun hg => match r.E c false a, r.E c false b with
    | some x, some y => some ⟨.rng2 x.1 y.1, fun X N G W lv h => by
        simp only [Bool.and_eq_true, decide_eq_true_eq] at hg
        exact s_rng2 (h.gl_ok hg.1.1.1) (h.gok.bn _ hg.1.1.2) (x.2 X N G W lv h) (y.2 X N G W lv h) hg.1.2 hg.2, fun _ _ => rfl⟩
    | _, _ => none
  | _ => none
def cItEnum (r : Cmp) (c : Cc) (elts : List Expr) (kk : Nat) (tp p pos : Pos) : (es : List Expr) → Option (CI c (.Tuple elts kk tp) (.Call (.Name "enumerate" p) es [] pos))
  | [a] => gd (glB c.sc "enumerate" && decide (("enumerate" : Str) ∈ c.g.bn) && notStar a) fun hg => match r.E c false a with
    | some x => some ⟨.enum x.1, fun X N G W lv h => by
        simp only [Bool.and_eq_true, decide_eq_true_eq] at hg
        exact s_enum (h.gl_ok hg.1.1) (h.gok.bn _ hg.1.2) (x.2 X N G W lv h) hg.2, fun _ _ => rfl⟩
    | none => none
  | _ => none
def cItZip (r : Cmp) (c : Cc) (elts : List Expr) (kk : Nat) (tp p pos : Pos) : (es : List Expr) → Option (CI c (.Tuple elts kk tp) (.Call (.Name "zip" p) es [] pos))
  | [a, b] => gd (glB c.sc "zip" && decide (("zip" : Str) ∈ c.g.bn) && notStar a && notStar b) fun hg => match r.E c false a, r.E c false b with
    | some x, some y => some ⟨.zip x.1 y.1, fun X N G W lv h => by
        simp only [Bool.and_eq_true, decide_eq_true_eq] at hg
        exact s_zip (h.gl_ok hg.1.1.1) (h.gok.bn _ hg.1.1.2) (x.2 X N G W lv h) (y.2 X N G W lv h) hg.1.2 hg.2, fun _ _ => rfl⟩
    | _, _ => none
  | _ => none
def cItTup (r : Cmp) (c : Cc) (elts : List Expr) (kk : Nat) (tp : Pos) (x : Str) (p pos : Pos) (es : List Expr) : Option (CI c (.Tuple elts kk tp) (.Call (.Name x p) es [] pos)) :=
  if hx : x = "enumerate" then match cItEnum r c elts kk tp p pos es with
    | some y => some ⟨y.1, by subst hx; exact y.2⟩
    | none => none
  else if hx : x = "zip" then match cItZip r c elts kk tp p pos es with
    | some y => some ⟨y.1, by subst hx; exact y.2⟩
    | none => none
  else cItv r c _ _
def cIt (r : Cmp) (c : Cc) (tg : Expr) : (e : Expr) → Option (CI c tg e)
  | .Call (.Name x p) es [] pos => if hx : x = "range" then match cItRng r c tg p pos es with
      | some y => some ⟨y.1, by subst hx; exact y.2⟩
      | none => none
    else match tg with
      | .Tuple elts kk tp => cItTup r c elts kk tp x p pos es
      | tg => cItv r c tg _
  | e => cItv r c tg e
/-! ### comprehensions -/
def ownNs (c : Cc) : List Expr → List (Str × Nat)
  | [] => []
  | .Name x _ :: es => match ixOf x c.N with
    | some i => (x, i) :: ownNs c es
    | none => ownNs c es
  | _ :: es => ownNs c es
def ownOf (c : Cc) : Expr → List (Str × Nat)
  | .Tuple es _ _ => ownNs c es
  | e => ownNs c [e]
def cIfs (r : Cmp) (c : Cc) : (es : List Expr) → Option (CTs c es)
  | [] => some ⟨.nil, fun X N G W lv h => s_tnil⟩
  | [e] => match r.T c e with
    | some t => some ⟨.cons t.1 .nil, fun X N G W lv h => s_tone (t.2 X N G W lv h)⟩
    | none => none
  | _ => none
/-- the parts of a comprehension -/
structure LcP (c : Cc) (elt tg iter : Expr) (ifs : List Expr) (scope : Scope) where
  own : List (Str × Nat)
  it : CI c tg iter
  g : CG (c.blk scope) tg
  cs : CTs (c.blk scope) ifs
  e : CE (c.blk scope) elt
  blk : blkC c.N c.sc scope own = true
  tgs : ∀ i ∈ tgI g.1, i ∈ own.map (·.2)
def LcP.ex {c : Cc} {elt tg iter : Expr} {ifs : List Expr} {scope : Scope} (q : LcP c elt tg iter ifs scope) (k : Bool) : Ex := .comp k (q.own.map (·.2)) q.g.1 q.it.1 q.cs.1 q.e.1
def cLcP (r : Cmp) (c : Cc) (elt tg iter : Expr) (ifs : List Expr) (scope : Scope) : Option (LcP c elt tg iter ifs scope) :=
  match cIt r c tg iter, cG (c.blk scope) tg, cIfs r (c.blk scope) ifs, r.E (c.blk scope) false elt with
  | some it, some g, some cs, some e => gd (blkC c.N c.sc scope (ownOf c tg)) fun hb => gd ((tgI g.1).all fun i => decide (i ∈ (ownOf c tg).map (·.2))) fun ht =>
    some ⟨ownOf c tg, it, g, cs, e, hb, fun i hi => of_decide_eq_true (List.all_eq_true.mp ht i hi)⟩
  | _, _, _, _ => none
def cLc (r : Cmp) (c : Cc) (k : Bool) (elt : Expr) (scope : Scope) (pos : Pos) : (gs : List Comprehension) → Option (CE c (.ListComp elt gs scope pos))
  | [⟨tg, iter, ifs, 0⟩] => match cLcP r c elt tg iter ifs scope with
    | some q => some ⟨q.ex k, fun X N G W lv h => s_lc (K := X.K) h.calm (by rw [h.hN]; exact h.nd) (q.it.2.1 X N G W lv h) (by rw [h.hN, h.sc]; exact blkOk_by q.blk)
        (fun s H C cl fp => q.g.2 _ N G WF lv (h.blk s H scope cl C fp)) (fun s H C cl fp => q.cs.2 _ N G WF lv (h.blk s H scope cl C fp)) (fun s H C cl fp => q.e.2 _ N G WF lv (h.blk s H scope cl C fp)) (q.it.2.2 X.env) q.tgs⟩
    | none => none
  | _ => none
/-! ### tests -/
theorem chn_bl {G : Gm} {o o' : COp} {a b c : Ex} {τ : Env} {C C1 : Cells} {d : FW.D} (h : eval G (.chn o o' a b c) τ C = .ok d C1) : ∃ t, d = .p (.bl t) := by
  have fin : ∀ {x y : Option P} {o : COp} {C : Cells}, (match x, y with
    | some x, some y => ofO ((cmpP o x y).map fun b => FW.D.p (.bl b)) C
    | _, _ => FW.R.stuck) = .ok d C1 → ∃ t, d = .p (.bl t) := fun {x y o C} h => by
    cases x with
    | none => cases h
    | some x =>
      cases y with
      | none => cases h
      | some y =>
        have h : ofO ((cmpP o x y).map fun b => FW.D.p (.bl b)) C = .ok d C1 := h
        cases e : cmpP o x y with
        | none => rw [e] at h; cases h
        | some t => rw [e] at h; cases h; exact ⟨t, rfl⟩
  have h : ((eval G a τ C).bnd fun x C1 => (eval G b τ C1).bnd fun y C2 =>
    match view C2 x, view C2 y with
    | some x, some y' => (ofO (cmpP o x y') C2).bnd fun t C3 => if t then (eval G c τ C3).bnd fun z C4 =>
        match view C4 y, view C4 z with
        | some y, some z => ofO ((cmpP o' y z).map fun b => FW.D.p (.bl b)) C4
        | _, _ => .stuck
      else .ok (.p (.bl false)) C3
    | _, _ => .stuck) = .ok d C1 := h
  cases e1 : eval G a τ C with
  | stuck => rw [e1] at h; cases h
  | ex _ _ _ => rw [e1] at h; cases h
  | ok x C2 =>
    rw [e1] at h
    have h : ((eval G b τ C2).bnd fun y C2 =>
      match view C2 x, view C2 y with
      | some x, some y' => (ofO (cmpP o x y') C2).bnd fun t C3 => if t then (eval G c τ C3).bnd fun z C4 =>
          match view C4 y, view C4 z with
          | some y, some z => ofO ((cmpP o' y z).map fun b => FW.D.p (.bl b)) C4
          | _, _ => .stuck
        else .ok (.p (.bl false)) C3
      | _, _ => .stuck) = .ok d C1 := h
    cases e2 : eval G b τ C2 with
    | stuck => rw [e2] at h; cases h
    | ex _ _ _ => rw [e2] at h; cases h
    | ok y C3 =>
      rw [e2] at h
      have h : (match view C3 x, view C3 y with
        | some x, some y' => (ofO (cmpP o x y') C3).bnd fun t C3 => if t then (eval G c τ C3).bnd fun z C4 =>
            match view C4 y, view C4 z with
            | some y, some z => ofO ((cmpP o' y z).map fun b => FW.D.p (.bl b)) C4
            | _, _ => .stuck
          else .ok (.p (.bl false)) C3
        | _, _ => .stuck) = .ok d C1 := h
      cases e3 : view C3 x with
      | none => rw [e3] at h; cases h
      | some p =>
        cases e4 : view C3 y with
        | none => rw [e3, e4] at h; cases h
        | some q =>
          rw [e3, e4] at h
          have h : ((ofO (cmpP o p q) C3).bnd fun t C3 => if t then (eval G c τ C3).bnd fun z C4 =>
              match view C4 y, view C4 z with
              | some y, some z => ofO ((cmpP o' y z).map fun b => FW.D.p (.bl b)) C4
              | _, _ => .stuck
            else .ok (.p (.bl false)) C3) = .ok d C1 := h
          cases e5 : cmpP o p q with
          | none => rw [e5] at h; cases h
          | some t =>
            rw [e5] at h
            cases t with
            | false => cases h; exact ⟨false, rfl⟩
            | true =>
              have h : ((eval G c τ C3).bnd fun z C4 =>
                match view C4 y, view C4 z with
                | some y, some z => ofO ((cmpP o' y z).map fun b => FW.D.p (.bl b)) C4
                | _, _ => .stuck) = .ok d C1 := h
              cases e6 : eval G c τ C3 with
              | stuck => rw [e6] at h; cases h
              | ex _ _ _ => rw [e6] at h; cases h
              | ok z C4 => rw [e6] at h; exact fin h
section
variable {X : Cx} {N : Nm} {G : Gm} {W : WX} {a b c : Expr} {ea eb ec : Ex} {pos : Pos}
theorem s_tchn (hK : X.K = N.K) (hu : X.A.units + 64 < cLine) {op op' : CmpOp} {o o' : COp} (ho : cmpOf op = some o) (ho' : cmpOf op' = some o') (hm : lastMarks [op, op'] [b, c] = false) (ha : PE X a (tE N G ea W)) (hb : PE X b (tE N G eb W)) (hc : PE X c (tE N G ec W)) :
    PT X (.Compare a [op, op'] [b, c] pos) (tTx N G (.ex (.chn o o' ea eb ec)) W) :=
  PTimp (pt_chain (u_cmp hK hu ho) (u_cmp hK hu ho') ha hb hc hm) fun σ H Q ⟨w, C, τ, R, E, h⟩ => by
    have h' : Post N w σ W (RelD N) (eval G (.chn o o' ea eb ec) τ C) (fun v H' => ∃ k, v = .bl k ∧ Q k H') := by
      have h : Post N w σ W (fun _ (a b : Bool) => a = b) ((eval G (.chn o o' ea eb ec) τ C).bnd fun d C1 => ofO ((FW.view C1 d).bind truP) C1) Q := h
      cases e : eval G (.chn o o' ea eb ec) τ C with
      | stuck => rw [e] at h; exact h.elim
      | ex _ _ _ => rw [e] at h; exact h
      | ok d C1 =>
        rw [e] at h
        obtain ⟨t, rfl⟩ := chn_bl e
        intro w1 H1 v e1 R1 rd
        obtain rfl := rd
        exact ⟨t, rfl, h w1 H1 t e1 R1 rfl⟩
    refine ⟨w, C, τ, R, E, h'.seq fun w1 C1 x v H1 e1 R1 r1 h1 => ⟨w1, C1, τ, R1, E.mono e1, h1.seq fun w2 C2 y u H2 e2 R2 r2 h2 => ?_⟩⟩
    refine rC_of R2 (r1.mono e2) r2 h2 fun t h3 => ⟨t, rfl, ?_⟩
    cases t with
    | false => exact iteF (h3.done R2 rfl)
    | true =>
      refine iteT ⟨w2, C2, τ, R2, (E.mono e1).mono e2, Post.seq h3 fun w3 C3 z t H3 e3 R3 r3 h4 => ?_⟩
      simp only [ofO_map] at h4
      exact rC_of (kk := fun b C1 => FW.R.ok (FW.D.p (FW.P.bl b)) C1) R3 (r2.mono e3) r3 h4 fun b h5 => h5.done R3 rfl
end
def isPlainT : Expr → Bool
  | .Constant _ _ _ | .Name _ _ | .Call _ _ _ _ | .Attribute _ _ _ | .Subscript _ _ _ | .BinOp _ _ _ _ | .List _ _ | .Tuple _ _ _ | .ListComp _ _ _ _ => true
  | _ => false
theorem plainT_ok {a : Expr} (h : isPlainT a = true) {env : PySem.Env} : ∀ whole, isTrue a env whole = (do let v ← whole; standAt a.pos; holding [v] (truthy v)) := by
  intro whole
  cases a <;> first | rfl | cases h
def cTpl (r : Cmp) (c : Cc) (e : Expr) : Option (CT c e) := gd (isPlainT e) fun hp => match r.E c false e with
  | some x => some ⟨.ex x.1, fun X N G W lv h => s_tex h.hK (plainT_ok hp) (x.2 X N G W lv h)⟩
  | none => none
def cTcmp (r : Cmp) (c : Cc) (a : Expr) (pos : Pos) : (ops : List CmpOp) → (bs : List Expr) → Option (CT c (.Compare a ops bs pos))
  | [op], [b] => gd (!behindInMarks op b) fun hm => match ho : cmpOf op, r.E c false a, r.E c false b with
    | some o, some x, some y => some ⟨.ex (.cmp o x.1 y.1), fun X N G W lv h => s_tcmp h.hK h.lt ho (by simpa using hm) (x.2 X N G W lv h) (y.2 X N G W lv h)⟩
    | _, _, _ => none
  | [op, op'], [b, d] => gd (!lastMarks [op, op'] [b, d]) fun hm => match ho : cmpOf op, ho' : cmpOf op', r.E c false a, r.E c false b, r.E c false d with
    | some o, some o', some x, some y, some z => some ⟨.ex (.chn o o' x.1 y.1 z.1), fun X N G W lv h => s_tchn h.hK h.lt ho ho' (by simpa using hm) (x.2 X N G W lv h) (y.2 X N G W lv h) (z.2 X N G W lv h)⟩
    | _, _, _, _, _ => none
  | _, _ => none
def stepT (r : Cmp) (c : Cc) : (e : Expr) → Option (CT c e)
  | .BoolOp .And es pos => match cAndT c pos (r.T c) es with
    | some t => some ⟨t.1, fun X N G W lv h => (t.2 X N G W lv h).pt⟩
    | none => none
  | .BoolOp .Or es pos => match cOrT c pos (r.T c) es with
    | some t => some ⟨t.1, fun X N G W lv h => (t.2 X N G W lv h).pt⟩
    | none => none
  | .UnaryOp .Not a pos => match r.T c a with
    | some t => some ⟨.not t.1, fun X N G W lv h => s_tnot (t.2 X N G W lv h)⟩
    | none => none
  | .Compare a ops bs pos => cTcmp r c a pos ops bs
  | e => cTpl r c e
def stepE (r : Cmp) (c : Cc) (k : Bool) : (e : Expr) → Option (CE c e)
  | .Name x pos => cName c x pos
  | .Constant v j pos => cConst c j pos v
  | .BinOp a op b pos => cBin r c a op b pos
  | .Compare a ops bs pos => cCmp r c a pos ops bs
  | .UnaryOp .USub a pos => cNeg r c a pos
  | .UnaryOp .Not a pos => cNot r c a pos
  | .BoolOp .And es pos => cAnd c pos (r.E c false) es
  | .BoolOp .Or es pos => cOr c pos (r.E c false) es
  | .IfExp t a b pos => cIte r c k t a b pos
  | .Tuple es j pos => cTup r c es j pos
  | .List es pos => cLst r c k es pos
  | .Subscript a b pos => cSub r c k a pos b
  | .Call f es [] pos => cCall r c k es pos f
  | .ListComp elt gs scope pos => cLc r c k elt scope pos gs
  | _ => none
def cmpl : Nat → Cmp
  | 0 => ⟨fun _ _ _ => none, fun _ _ => none⟩
  | n + 1 => ⟨fun c k e => stepE (cmpl n) c k e, fun c e => stepT (cmpl n) c e⟩
end FW

set_option maxRecDepth 100000
set_option maxHeartbeats 2000000
/-! FwG3: statements into the small language. -/
namespace FW
open PySem PySem.Spec PyProof.Rows L2
abbrev Prs (c : Cc) (F : Cx → Nm → Gm → WX → Prop) : Prop := ∀ X N G W lv, Cok c X N G W lv → PassesOwn (model X.prog X.w) X.A X.env X.xe → F X N G W
abbrev CS (c : Cc) (s : Stmt) := { x : St // Prs c fun X N G W => PS X s (tSt N G x W) }
abbrev CSs (c : Cc) (s : List Stmt) := { x : Ss // Prs c fun X N G W => PSs X s (tSs N G x W) }
def cSs (c : Cc) (f : (s : Stmt) → Option (CS c s)) : (ss : List Stmt) → Option (CSs c ss)
  | [] => some ⟨.nil, fun X N G W lv h hp => s_nil⟩
  | s :: ss => match f s, cSs c f ss with
    | some a, some r => some ⟨.cons a.1 r.1, fun X N G W lv h hp => s_cons (a.2 X N G W lv h hp) (r.2 X N G W lv h hp)⟩
    | _, _ => none
def swB (scope : Scope) (x : Str) (p lpos : Pos) : Bool := (p.line == lpos.line) && !(scope.names.any fun (n, k) => n == x && (k == .local || k == .cell))
theorem sw_not {elt : Expr} {gs : List Comprehension} {scope : Scope} {pos py : Pos} {y : Str} {l : Nat} {env : PySem.Env} (h : swB scope y py pos = false) : swapsWith (.ListComp elt gs scope pos) (some (.Name y py)) l env = pure false := by
  show (pure (env.blockKind == .function && env.kindOf y == some .local && py.line == pos.line && !(scope.names.any fun (n, k) => n == y && (k == .local || k == .cell))) : Sem Bool) = pure false
  have : (env.blockKind == .function && env.kindOf y == some .local && py.line == pos.line && !(scope.names.any fun (n, k) => n == y && (k == .local || k == .cell))) = false := by
    rw [Bool.and_assoc]
    unfold swB at h
    rw [h, Bool.and_false]
  rw [this]
theorem sw_yes {elt : Expr} {gs : List Comprehension} {scope : Scope} {pos py : Pos} {y : Str} {l : Nat} {env : PySem.Env} (hk : env.scope.kind = .function) (hy : env.scope.names.lookup y = some .local) (h : swB scope y py pos = true) : swapsWith (.ListComp elt gs scope pos) (some (.Name y py)) l env = pure true := by
  unfold swB at h
  simp only [Bool.and_eq_true, Bool.not_eq_true'] at h
  exact sw_true hk hy h.1 h.2
def notLcB : Expr → Bool
  | .ListComp _ _ _ _ | .SetComp _ _ _ _ | .DictComp _ _ _ _ _ => false
  | _ => true
theorem notLcB_ok {a : Expr} (h : notLcB a = true) {t : Option Expr} {l : Nat} {env : PySem.Env} : swapsWith a t l env = pure false := by
  cases a <;> first | rfl | cases h
def notTupB : Expr → Bool
  | .Tuple _ _ _ => false
  | _ => true
theorem swTup {a : Expr} {ts : List Expr} {kk : Nat} {tp : Pos} {l : Nat} {env : PySem.Env} : swapsWithSole [.Tuple ts kk tp] a l env = pure false := by
  cases a <;> rfl
theorem ssTup {a : Expr} (h : notTupB a = true) {ts : List Expr} {kk : Nat} {tp : Pos} {env : PySem.Env} : swappedStores [.Tuple ts kk tp] a env = pure none := by
  cases a <;> first | rfl | cases h
theorem swSub {a b i : Expr} {tp : Pos} {l : Nat} {env : PySem.Env} : swapsWithSole [.Subscript b i tp] a l env = pure false := by
  cases a <;> rfl
theorem ssSub {a b i : Expr} {tp : Pos} {env : PySem.Env} : swappedStores [.Subscript b i tp] a env = pure none := by
  cases a <;> rfl
theorem asSub {b i : Expr} {tp : Pos} {env : PySem.Env} (h : plainB i = true) : ∀ v, assign (.Subscript b i tp) env v = (do
      let ov ← holding [v] (PySem.eval b env)
      let iv ← holding [v, ov] (PySem.eval i env)
      standAt tp
      holding [v, ov, iv] (setItem ov iv v)
      release [v, ov, iv] []) := by
  intro v
  cases i <;> first | rfl | cases h
theorem loc_of {c : Cc} {X : Cx} {N : Nm} {G : Gm} {W : WX} {lv : Nat} (h : Cok c X N G W lv) {x : Str} (hl : locB c.sc x = true) : X.env.scope.names.lookup x = some .local := by rw [h.sc]; exact of_decide_eq_true hl
def cAsgLc (r : Cmp) (c : Cc) (x : Str) (p pos : Pos) (i : Nat) (hi : ixOf x c.N = some i) (hl : locB c.sc x = true) (elt : Expr) (scope : Scope) (lpos : Pos) : (gs : List Comprehension) → Option (CS c (.Assign [.Name x p] (.ListComp elt gs scope lpos) pos))
  | [⟨tg, iter, ifs, 0⟩] => match cLcP r c elt tg iter ifs scope with
    | some q => if hs : swB scope x p lpos = true then gd (decide (c.sc.kind = .function)) fun hk =>
        some ⟨.asg i (q.ex (decide (x ∈ c.mt))), fun X N G W lv h hp => s_asgLc (K := X.K) h.calm (by rw [h.hN]; exact h.nd) (by rw [h.hN]; exact ixOf_ok hi) (loc_of h hl) (sw_yes (by rw [h.sc]; exact of_decide_eq_true hk) (loc_of h hl) hs)
          (q.it.2.1 X N G W lv h) (by rw [h.hN, h.sc]; exact blkOk_by q.blk) (fun s H C cl fp => q.g.2 _ N G WF lv (h.blk s H scope cl C fp)) (fun s H C cl fp => q.cs.2 _ N G WF lv (h.blk s H scope cl C fp)) (fun s H C cl fp => q.e.2 _ N G WF lv (h.blk s H scope cl C fp)) (q.it.2.2 X.env) q.tgs⟩
      else some ⟨.asg i (q.ex (decide (x ∈ c.mt))), fun X N G W lv h hp => s_asg (by rw [h.hN]; exact h.nd) (by rw [h.hN]; exact ixOf_ok hi) (loc_of h hl)
        (s_lc (K := X.K) h.calm (by rw [h.hN]; exact h.nd) (q.it.2.1 X N G W lv h) (by rw [h.hN, h.sc]; exact blkOk_by q.blk)
        (fun s H C cl fp => q.g.2 _ N G WF lv (h.blk s H scope cl C fp)) (fun s H C cl fp => q.cs.2 _ N G WF lv (h.blk s H scope cl C fp)) (fun s H C cl fp => q.e.2 _ N G WF lv (h.blk s H scope cl C fp)) (q.it.2.2 X.env) q.tgs) (sw_not (by simpa using hs))⟩
    | none => none
  | _ => none
def cAsgN (r : Cmp) (c : Cc) (x : Str) (p pos : Pos) (e : Expr) : Option (CS c (.Assign [.Name x p] e pos)) := match hi : ixOf x c.N with
  | some i => gd (locB c.sc x) fun hl => match e with
    | .ListComp elt gs scope lpos => cAsgLc r c x p pos i hi hl elt scope lpos gs
    | e => gd (notLcB e) fun hn => match r.E c (decide (x ∈ c.mt)) e with
      | some y => some ⟨.asg i y.1, fun X N G W lv h hp => s_asg (by rw [h.hN]; exact h.nd) (by rw [h.hN]; exact ixOf_ok hi) (loc_of h hl) (y.2 X N G W lv h) (notLcB_ok hn)⟩
      | none => none
  | none => none
def cAsg (r : Cmp) (c : Cc) (e : Expr) (pos : Pos) : (t : Expr) → Option (CS c (.Assign [t] e pos))
  | .Name x p => cAsgN r c x p pos e
  | .Tuple ts kk tp => gd (notTupB e) fun hn => match cNs c ts, r.E c false e with
    | some q, some y => some ⟨.asgT q.1 y.1, fun X N G W lv h hp => s_asgT h.calm (pg_tup (pos := tp) (k := kk) (n := q.1.length) h.calm (q.2.2.2 X N G W lv h) ((q.2.2.1 X.env).1.trans q.2.1.symm) (q.2.2.1 X.env).2) (y.2 X N G W lv h) swTup (ssTup hn)⟩
    | _, _ => none
  | .Subscript b i tp => gd (plainB i) fun hn => match r.E c false b, r.E c false i, r.E c false e with
    | some x, some y, some z => some ⟨.asgI x.1 y.1 z.1, fun X N G W lv h hp => s_asgI (by have := h.lt; omega) (z.2 X N G W lv h) (x.2 X N G W lv h) (y.2 X N G W lv h) swSub ssSub (asSub hn)⟩
    | _, _, _ => none
  | _ => none
def cAug (r : Cmp) (c : Cc) (op : Operator) (e : Expr) (pos : Pos) : (t : Expr) → Option (CS c (.AugAssign t op e pos))
  | .Name x p => match hi : ixOf x c.N, ho : augOf op, r.E c false e with
    | some i, some o, some y => gd (locB c.sc x) fun hl => some ⟨.aug i o y.1, fun X N G W lv h hp => s_aug ho (by rw [h.hN]; exact h.nd) (by rw [h.hN]; exact ixOf_ok hi) (loc_of h hl) (y.2 X N G W lv h)⟩
    | _, _, _ => none
  | _ => none
def cApp (r : Cmp) (c : Cc) (a : Expr) (apos p pos : Pos) : (es : List Expr) → Option (CS c (.Expr (.Call (.Attribute a "append" apos) es [] p) pos))
  | [b] => gd (notC0 a && notStar b && (apos.endLine == p.line)) fun hg => match r.E c false a, r.E c false b with
    | some x, some y => some ⟨.mut .append x.1 (.cons y.1 .nil), fun X N G W lv h hp => by
        simp only [Bool.and_eq_true] at hg
        exact s_append (x.2 X N G W lv h) (y.2 X N G W lv h) hg.1.1 hg.1.2 hg.2⟩
    | _, _ => none
  | _ => none
def cExpC (r : Cmp) (c : Cc) (e : Expr) (pos : Pos) : Option (CS c (.Expr e pos)) := gd (notLcB e) fun hn => match r.E c false e with
  | some x => some ⟨.expr x.1, fun X N G W lv h hp => s_expr (x.2 X N G W lv h) (notLcB_ok hn)⟩
  | none => none
def cExp (r : Cmp) (c : Cc) (pos : Pos) : (e : Expr) → Option (CS c (.Expr e pos))
  | .Constant (.str z) j p => some ⟨.pass, fun X N G W lv h hp => s_doc⟩
  | .Call (.Attribute a m apos) es [] p => if hm : m = "append" then match cApp r c a apos p pos es with
      | some y => some ⟨y.1, by subst hm; exact y.2⟩
      | none => none
    else cExpC r c _ pos
  | e => cExpC r c e pos
def stepS (r : Cmp) (c : Cc) (f : (s : Stmt) → Option (CS c s)) : (s : Stmt) → Option (CS c s)
  | .Assign [t] e pos => cAsg r c e pos t
  | .AugAssign t op e pos => cAug r c op e pos t
  | .Return (some e) pos => match r.E c true e with
    | some x => some ⟨.ret x.1, fun X N G W lv h hp => s_ret (x.2 X N G W lv h)⟩
    | none => none
  | .Return none pos => some ⟨.retN, fun X N G W lv h hp => s_retN⟩
  | .Expr e pos => cExp r c pos e
  | .If t a b pos => match r.T c t, cSs c f a, cSs c f b with
    | some x, some y, some z => some ⟨.ife x.1 y.1 z.1, fun X N G W lv h hp => s_if (x.2 X N G W lv h) (y.2 X N G W lv h hp) (z.2 X N G W lv h hp)⟩
    | _, _, _ => none
  | .For tg it b [] pos => match cIt r c tg it, cG c tg, cSs c f b with
    | some x, some g, some z => some ⟨.for g.1 x.1 z.1, fun X N G W lv h hp => s_for hp h.calm (x.2.1 X N G W lv h) (g.2 X N G W lv h) (z.2 X N G W lv h hp) (x.2.2 X.env)⟩
    | _, _, _ => none
  | .While t b [] pos => match r.T c t, cSs c f b with
    | some x, some z => some ⟨.whl x.1 z.1, fun X N G W lv h hp => s_whl hp (x.2 X N G W lv h) (z.2 X N G W lv h hp)⟩
    | _, _ => none
  | .Pass pos => some ⟨.pass, fun X N G W lv h hp => s_pass⟩
  | .Break pos => some ⟨.brk, fun X N G W lv h hp => s_brk⟩
  | .Continue pos => some ⟨.cnt, fun X N G W lv h hp => s_cnt⟩
  | _ => none
def cS (m : Nat) (c : Cc) : Nat → (s : Stmt) → Option (CS c s)
  | 0 => fun _ => none
  | n + 1 => fun s => stepS (cmpl m) c (cS m c n) s
/-- a def's body -/
def cBody (m n : Nat) (c : Cc) (ss : List Stmt) : Option (CSs c ss) := cSs c (cS m c n) ss
end FW

set_option maxRecDepth 100000
set_option maxHeartbeats 2000000
/-! FwH1: defs, a whole program, a law's end. -/
namespace FW
open PySem PySem.Spec PyProof.Rows L2
/-- a def of the program: where it stands, its slots' names, its parameters, the names whose lists are changed -/
structure DefI where
  d : He5.DefA
  N : List Str
  ps : List Str
  mt : List Str
def scB (N P : List Str) (sc : Scope) : Bool := decide (sc.kind = .function) && !sc.isCoroutine && !sc.isGenerator && decide N.Nodup && decide (N.take P.length = P) && (P.all fun x => decide (sc.names.lookup x = some .local)) && (sc.names.all fun y => decide (y.2 ≠ .free))
theorem scB_ok {N P : List Str} {sc : Scope} (h : scB N P sc = true) : FnScope N P sc := by
  unfold scB at h
  simp only [Bool.and_eq_true, decide_eq_true_eq, Bool.not_eq_true', List.all_eq_true] at h
  obtain ⟨⟨⟨⟨⟨⟨h1, h2⟩, h3⟩, h4⟩, h5⟩, h6⟩, h7⟩ := h
  exact ⟨h1, h2, h3, h4, h5, fun x hx => .inl (h6 x hx), h7⟩
def BindA (q : DefI) : Prop := ∀ (kV doc pm : Value) (an : Option Addr) (cdv ct : Value) (us : List Value), us.length = q.ps.length → bindArgs (PySem.W.fnOf q.d.name q.d.qual q.d.params q.d.body q.d.scope .none kV doc pm an cdv ct) ⟨us, []⟩ = pure (q.ps.zip us)
/-- a def and its small form -/
structure DefOk (g : Gc) (m : Nat) (i : FnI) (q : DefI) : Prop where
  np : i.np = q.ps.length
  ns : i.ns = q.N.length
  sc : scB q.N q.ps q.d.scope = true
  dfl : q.d.dfl = []
  kwd : q.d.kwd = []
  body : (cBody m m ⟨q.N, q.d.scope, q.mt, g⟩ q.d.body).map (·.1) = some i.body
  bind : BindA q
theorem lay_fn {N : Nm} {w : Wd} {W : WX} {D : Ends} {Q : VK} {o : O} {E : XK} (h : Post N w [] (fun c d _ H => E c d H) (RelD N) o.toR Q) : PostS N w (fun c d _ H => E c d H) { nx := fun _ H' => Q .non H', rt := Q } o := by
  cases o with
  | nx τ C => exact fun w' H' σ' e R _ => h w' H' .non e R rfl
  | rt d C => exact fun w' H' v e R r => h w' H' v e R r
  | bk τ C => exact h.elim
  | ct τ C => exact h.elim
  | ex c fs τ C => exact fun w' H' σ' cls dd e R _ x => h w' H' cls dd e R x
  | stuck => exact h.elim
theorem relE_start {N : Nm} {w : Wd} {ns : List Str} {i : FnI} {ds : List FW.D} {vs : List V} (hn : i.ns = ns.length) (r : RelDs N w ds vs) : RelE N w (startE i ds) (L2.start ns vs) := by
  have hl := r.len
  unfold startE L2.start
  rw [hn, hl]
  refine ⟨by simp [hl], fun j d h => ?_⟩
  by_cases hj : j < ds.length
  · rw [List.getElem?_append_left (by simpa using hj)] at h
    rw [List.getElem?_append_left (by rw [List.length_map, ← hl]; exact hj)]
    · rw [List.getElem?_map] at h ⊢
      have get : ∀ {ds : List FW.D} {vs : List V} {j : Nat} {d : FW.D}, RelDs N w ds vs → ds[j]? = some d → ∃ v, vs[j]? = some v ∧ RelD N w d v := fun {ds} => by
        induction ds with
        | nil => intro vs j d _ h; simp at h
        | cons a ds ih =>
          intro vs j d r h
          cases vs with
          | nil => exact r.elim
          | cons v vs =>
            cases j with
            | zero => cases h; exact ⟨v, rfl, r.1⟩
            | succ j => exact ih (j := j) r.2 h
      cases e : ds[j]? with
      | none => rw [e] at h; cases h
      | some d' =>
        rw [e] at h
        cases h
        obtain ⟨v, ev, rv⟩ := get r e
        exact ⟨v, by rw [ev]; rfl, rv⟩
  · rw [List.getElem?_append_right (by simpa using Nat.le_of_not_lt hj)] at h
    rw [List.getElem?_replicate] at h
    split at h <;> cases h
/-- what the globals stand for, off the written part -/
def GlS (mg : Str → Option Value) (K : PySem.W.Frag) (N : Nm) (ds : List DefI) (x : Str) : GlI → Prop
  | .fn f => ∃ q, ds[f]? = some q ∧ mg x = some (.ref (q.d.at_ K))
  | .cls c => mg x = some (.ref (N.ca c))
  | .con p => ∃ v u, mg x = some u ∧ RelV v u ∧ cV p = some v
structure PgOk (mg : Str → Option Value) (K : PySem.W.Frag) (N : Nm) (g : Gc) (m : Nat) (Pg : Prg) (ds : List DefI) : Prop where
  hK : K = N.K
  fn : ∀ (i : Nat) (q : DefI), ds[i]? = some q → ∃ f, Pg.fns[i]? = some f ∧ DefOk g m f q
  len : Pg.fns.length = ds.length
  fd : ∀ (i : Nat) (q : DefI), ds[i]? = some q → ∃ fd, FunD K q.d.name q.d.qual q.d.params q.d.body q.d.scope (q.d.dvs K) (q.d.kws K) (q.d.at_ K) fd
  gl : ∀ x i, g.gl.lookup x = some i → GlS mg K N ds x i
  bn : ∀ x ∈ g.bn, mg x = none
  sm : ∀ (cn mn f : Nat) (m : Str), g.sm.lookup (cn, mn) = some f → g.nms[mn]? = some m → Pg.look cn mn = some (.stat f) ∧ ∃ q, ds[f]? = some q ∧ SMet K (N.ca cn) m (q.d.at_ K)
  sub : SubOk K N Pg.sub
theorem callN_len {Pg : Prg} {i : Nat} {f : FnI} (hf : Pg.fns[i]? = some f) {n : Nat} {ds : List FW.D} {C : Cells} (h : callN Pg n i ds C ≠ .stuck) : ds.length = f.np := by
  cases n with
  | zero => exact absurd rfl h
  | succ n =>
    have e : callN Pg (n + 1) i ds C = match Pg.fns[i]? with
      | some i => if ds.length = i.np then (execs (Pg.gm (callN Pg n)) i.body (startE i ds) C).toR else .stuck
      | none => .stuck := rfl
    rw [e, hf] at h
    by_cases q : ds.length = f.np
    · exact q
    · exact absurd (if_neg q) h
theorem fns_ok {P : Program} {w : World} {K : PySem.W.Frag} {mg : Str → Option Value} {base : Heap} {N : Nm} {g : Gc} {m : Nat} {Pg : Prg} {ds : List DefI} (G : PgOk mg K N g m Pg ds) :
    ∀ (n i : Nat) (q : DefI), ds[i]? = some q → ∀ fd, FunD K q.d.name q.d.qual q.d.params q.d.body q.d.scope (q.d.dvs K) (q.d.kws K) (q.d.at_ K) fd → FnOk P w K mg base (L2.CX P w) n (q.d.at_ K) fd q.ps (spC N (callN Pg n) i) ∧ PySem.W.keepIn K (.ref (q.d.at_ K)) = true ∧ Binds K fd q.ps [] ∧
      ∀ (s : Shared) (us : List Value), us.length = q.ps.length → BindsTo s fd ⟨us, []⟩ (q.ps.zip us) := by
  intro n
  induction n with
  | zero =>
    intro i q hq fd F
    obtain ⟨f, hf, D⟩ := G.fn i q hq
    have F : FunD K q.d.name q.d.qual q.d.params q.d.body q.d.scope [] [] (q.d.at_ K) fd := by
      have e1 : q.d.dvs K = [] := by unfold He5.DefA.dvs; rw [D.dfl]; rfl
      have e2 : q.d.kws K = [] := by unfold He5.DefA.kws; rw [D.kwd]; rfl
      rw [e1, e2] at F; exact F
    exact ⟨⟨fun vs H Q E ⟨_, _, _, _, _, h⟩ => h.elim, fun A outer s H args us vs Q E _ _ _ _ ⟨_, _, _, _, _, h⟩ => h.elim⟩, F.kp, F.bindsN D.bind, F.bindsA D.bind⟩
  | succ n ih =>
    intro i q hq fd F
    obtain ⟨f, hf, D⟩ := G.fn i q hq
    have F : FunD K q.d.name q.d.qual q.d.params q.d.body q.d.scope [] [] (q.d.at_ K) fd := by
      have e1 : q.d.dvs K = [] := by unfold He5.DefA.dvs; rw [D.dfl]; rfl
      have e2 : q.d.kws K = [] := by unfold He5.DefA.kws; rw [D.kwd]; rfl
      rw [e1, e2] at F; exact F
    have S := scB_ok D.sc
    have hlen : ∀ vs H Q E, spC N (callN Pg (n + 1)) i vs H Q E → vs.length = q.ps.length := fun vs H Q E ⟨w, C, es, R, r, h⟩ => by
      rw [← r.len, ← D.np]
      exact callN_len hf (fun z => by rw [z] at h; exact h.elim)
    refine ⟨F.ok S hlen ?_, F.kp, F.bindsN D.bind, F.bindsA D.bind⟩
    intro cdv A outer s H vs Q E hr ⟨w0, C, es, R, r, h⟩
    cases eb : cBody m m ⟨q.N, q.d.scope, q.mt, g⟩ q.d.body with
    | none => have := D.body; rw [eb] at this; cases this
    | some b =>
      have hb : b.1 = f.body := by have := D.body; rw [eb] at this; exact Option.some.inj this
      refine ⟨tSs N (Pg.gm (callN Pg n)) b.1 (fun c d _ H => E c d H), ?_, ?_⟩
      · have hp : PassesOwn (model P w) (cxOf (L2.CX P w) P w K mg base q.N q.d.qual q.d.scope (q.d.at_ K) cdv A outer s H E).A (cxOf (L2.CX P w) P w K mg base q.N q.d.qual q.d.scope (q.d.at_ K) cdv A outer s H E).env (cxOf (L2.CX P w) P w K mg base q.N q.d.qual q.d.scope (q.d.at_ K) cdv A outer s H E).xe := passes_of rfl
        refine b.2 _ N _ _ n ⟨G.hK, rfl, S.nd, rfl, rfl, hr, takes_of rfl rfl rfl rfl, ⟨fun x gi hx => ?_, G.bn, fun cn mn f' m' h1 h2 => ?_, G.sub⟩⟩ hp
        · have z := G.gl x gi hx
          cases gi with
          | fn f' =>
            obtain ⟨q', h1, h2⟩ := z
            obtain ⟨fd', Fd'⟩ := G.fd f' q' h1
            obtain ⟨F', k', b', _⟩ := ih f' q' h1 fd' Fd'
            exact ⟨_, h2, fd', _, F', k', b'⟩
          | cls c => exact z
          | con p => exact z
        · obtain ⟨h3, q', h4, h5⟩ := G.sm cn mn f' m' h1 h2
          obtain ⟨fd', Fd'⟩ := G.fd f' q' h4
          obtain ⟨F', k', b', _⟩ := ih f' q' h4 fd' Fd'
          exact ⟨h3, _, h5, fd', _, F', k', b'⟩
      · have e : callN Pg (n + 1) i es C = match Pg.fns[i]? with
          | some i => if es.length = i.np then (execs (Pg.gm (callN Pg n)) i.body (startE i es) C).toR else .stuck
          | none => .stuck := rfl
        have hl : es.length = f.np := callN_len hf (fun z => by rw [z] at h; exact h.elim)
        rw [e, hf] at h
        have h : Post N w0 [] (fun c d _ H => E c d H) (RelD N) (if es.length = f.np then (execs (Pg.gm (callN Pg n)) f.body (startE f es) C).toR else .stuck) Q := h
        rw [if_pos hl] at h
        exact ⟨w0, C, startE f es, R, relE_start D.ns r, by rw [hb]; exact lay_fn (W := fun _ _ _ _ => True) (D := ⟨fun _ _ => True, fun _ _ => True, fun _ _ => True, fun _ _ => True⟩) h⟩
/-! ### the law -/
theorem law_start {N : Nm} {call : Nat → List FW.D → Cells → FW.R FW.D} {i : Nat} {H : Hp} {a : Addr} {ns : List Int} (hO : Only H) (hS : SqL N.K H a (ns.map V.int)) (C' : Cells) (h : call i [.p (.scr (ns.map P.int))] [] = .ok (.p (.bl true)) C') :
    spC N call i [.ref a] H (fun v _ => v = .bl true) fun _ _ _ => False := by
  refine ⟨⟨H, [], fun _ => none, fun _ => none⟩, [], [.p (.scr (ns.map P.int))], ⟨fun b u e => .inl ⟨rfl, e⟩, rfl, List.nodup_nil, fun n b cl hb _ => by simp at hb, fun b o u e => by simp at e, fun n o e => by simp at e⟩, ⟨⟨a, ns.map V.int, rfl, hS, ?_⟩, trivial⟩, ?_⟩
  · clear h hS
    induction ns with
    | nil => trivial
    | cons n ns ih => exact ⟨rfl, ih⟩
  · rw [h]
    exact fun w' H' v _ _ r => r
/-! ### the Hook -/
def obsF (ex : PySem.W.Frag → Bool) (fn : List He5.DefA) (K : PySem.W.Frag) : He.AlD := (ex K && fn.all fun d => d.ok K, fn.map fun d => He5.fnA K (d.at_ K))
def SaysF (ex : PySem.W.Frag → Bool) (fn : List He5.DefA) (K : PySem.W.Frag) : Prop := obsF ex fn K = He5.valA fn
def obsFG (n : Nat) (ex : PySem.W.Frag → Bool) (fn : List He5.DefA) (g : Addr → Option Obj) : He.AlD := obsF ex fn (He.frG g (He5.asA g n))
def hookF (n : Nat) (ex : PySem.W.Frag → Bool) (fn : List He5.DefA) : PySem.W.Hook where
  α := He.AlD
  obs := fun s => obsFG n ex fn s.heap.get?
  val := fun _ => He5.valA fn
  says := fun _ h => ∃ K : PySem.W.Frag, K.In h ∧ SaysF ex fn K
  of := fun _ _ e => ⟨_, He.frG_in, e⟩
  keeps := fun _ _ _ ⟨K, hK, c⟩ k => ⟨K, PySem.W.Frag.In.keeps hK k, c⟩
theorem obsFG_eq {n : Nat} {ex : PySem.W.Frag → Bool} {fn : List He5.DefA} {g : Addr → Option Obj} {s : Shared} (h : ∀ a, g a = s.heap.get? a) : obsFG n ex fn g = (hookF n ex fn).obs s := by
  have e : g = s.heap.get? := funext h
  rw [e] <;> rfl
theorem SaysF.ex {ex : PySem.W.Frag → Bool} {fn : List He5.DefA} {K : PySem.W.Frag} (c : SaysF ex fn K) : ex K = true :=
  (He.ba (show (ex K && fn.all fun d => d.ok K) = true from congrArg (fun z : He.AlD => z.1) c)).1
theorem SaysF.def_ {ex : PySem.W.Frag → Bool} {fn : List He5.DefA} {K : PySem.W.Frag} (c : SaysF ex fn K) (i : Nat) {d : He5.DefA} (h : fn[i]? = some d) : ∃ fd, L2.FunD K d.name d.qual d.params d.body d.scope (d.dvs K) (d.kws K) (d.at_ K) fd := by
  have c2 := (He.ba (show (ex K && fn.all fun d => d.ok K) = true from congrArg (fun z : He.AlD => z.1) c)).2
  have e : fn.map (fun d => He5.fnA K (d.at_ K)) = fn.map He5.DefA.val := congrArg (fun z : He.AlD => z.2) c
  have e2 : (fn.map fun d => He5.fnA K (d.at_ K))[i]? = (fn.map He5.DefA.val)[i]? := by rw [e]
  rw [List.getElem?_map, List.getElem?_map, h] at e2
  exact He5.DefA.funD (Option.some.inj e2) (List.all_eq_true.mp c2 d (List.mem_of_getElem? h))
/-! ### the program's facts as one Bool -/
/-- where the classes stand -/
def caOf (K : PySem.W.Frag) (cls : List Str) (c : Nat) : Addr := He.ga K (cls.getD c "")
def nmOf (K : PySem.W.Frag) (cls : List Str) (g : Gc) : Nm := ⟨K, caOf K cls, fun i => g.nms.getD i ""⟩
def glF (K : PySem.W.Frag) (cls : List Str) (ds : List DefI) (x : Str) : GlI → Bool
  | .fn f => match ds[f]? with
    | some q => He.eqO (PySem.W.nsIn K mainGlobals x) (some (some (.ref (q.d.at_ K))))
    | none => false
  | .cls c => He.eqO (PySem.W.nsIn K mainGlobals x) (some (some (.ref (caOf K cls c))))
  | .con p => match PySem.W.nsIn K mainGlobals x, cV p with
    | some (some u), some v => He.relB v u
    | _, _ => false
def smF (K : PySem.W.Frag) (cls : List Str) (g : Gc) (ds : List DefI) (e : (Nat × Nat) × Nat) : Bool := match g.nms[e.1.2]?, ds[e.2]? with
  | some m, some q => PySem.W.readsIn K (caOf K cls e.1.1) (.type "type") && (He.eqO (PySem.W.specialIn K (.ref (caOf K cls e.1.1)) "__getattribute__") (some (some (.builtin "type.__getattribute__"))) &&
    (He5.wrapB K (caOf K cls e.1.1) "staticmethod" "staticmethod.__get__" m && decide (q.d.at_ K = He5.wf K (caOf K cls e.1.1) "staticmethod" m)))
  | _, _ => false
def exF (cls : List Str) (g : Gc) (ds : List DefI) (K : PySem.W.Frag) : Bool := (g.gl.all fun e => glF K cls ds e.1 e.2) && ((g.bn.all fun x => He.eqO (PySem.W.nsIn K mainGlobals x) (some none)) && g.sm.all fun e => smF K cls g ds e)
theorem lookup_mem' {α β : Type} [BEq α] [LawfulBEq α] {x : α} {b : β} : ∀ {l : List (α × β)}, l.lookup x = some b → (x, b) ∈ l
  | [], h => by cases h
  | (a, c) :: r, h => by
    rw [List.lookup_cons] at h
    cases e : x == a with
    | true =>
      rw [e] at h
      cases h
      rw [eq_of_beq e]
      exact List.mem_cons_self
    | false =>
      rw [e] at h
      exact List.mem_cons_of_mem _ (lookup_mem' h)
theorem exF_gl {cls : List Str} {g : Gc} {ds : List DefI} {K : PySem.W.Frag} {h : Heap} {mg : Str → Option Value} (X : K.In h) (G : h.Ns mainGlobals mg) (c : exF cls g ds K = true) :
    (∀ x i, g.gl.lookup x = some i → GlS mg K (nmOf K cls g) ds x i) ∧ (∀ x ∈ g.bn, mg x = none) ∧
    (∀ (cn mn f : Nat) (m : Str), g.sm.lookup (cn, mn) = some f → g.nms[mn]? = some m → ∃ q, ds[f]? = some q ∧ SMet K (caOf K cls cn) m (q.d.at_ K)) := by
  obtain ⟨c1, c⟩ := He.ba c
  obtain ⟨c2, c3⟩ := He.ba c
  refine ⟨fun x i hx => ?_, fun x hx => ?_, fun cn mn f m hf hm => ?_⟩
  · have z := List.all_eq_true.mp c1 _ (lookup_mem' hx)
    cases i with
    | fn f =>
      have z : (match ds[f]? with
        | some q => He.eqO (PySem.W.nsIn K mainGlobals x) (some (some (.ref (q.d.at_ K))))
        | none => false) = true := z
      cases e : ds[f]? with
      | none => rw [e] at z; cases z
      | some q => rw [e] at z; exact ⟨q, e, PySem.W.mg_of X G (He.eqO_ok z)⟩
    | cls c => exact PySem.W.mg_of X G (He.eqO_ok z)
    | con p =>
      have z : (match PySem.W.nsIn K mainGlobals x, cV p with
        | some (some u), some v => He.relB v u
        | _, _ => false) = true := z
      cases e : PySem.W.nsIn K mainGlobals x with
      | none => rw [e] at z; cases z
      | some o =>
        cases o with
        | none => rw [e] at z; cases z
        | some u =>
          cases e2 : cV p with
          | none => rw [e, e2] at z; cases z
          | some v => rw [e, e2] at z; exact ⟨v, u, PySem.W.mg_of X G e, He.relB_ok z, e2⟩
  · exact PySem.W.mg_none_of X G (He.eqO_ok (List.all_eq_true.mp c2 x hx))
  · have z := List.all_eq_true.mp c3 _ (lookup_mem' hf)
    have z : (match g.nms[mn]?, ds[f]? with
      | some m, some q => PySem.W.readsIn K (caOf K cls cn) (.type "type") && (He.eqO (PySem.W.specialIn K (.ref (caOf K cls cn)) "__getattribute__") (some (some (.builtin "type.__getattribute__"))) &&
        (He5.wrapB K (caOf K cls cn) "staticmethod" "staticmethod.__get__" m && decide (q.d.at_ K = He5.wf K (caOf K cls cn) "staticmethod" m)))
      | _, _ => false) = true := z
    rw [hm] at z
    cases e : ds[f]? with
    | none => rw [e] at z; cases z
    | some q =>
      rw [e] at z
      obtain ⟨z1, z⟩ := He.ba z
      obtain ⟨z2, z⟩ := He.ba z
      obtain ⟨z3, z4⟩ := He.ba z
      obtain ⟨h1, rest, h2⟩ := He5.wrapB_ok z3
      exact ⟨q, rfl, ⟨.type "type", _, rest, ⟨z1, He.eqO_ok z2⟩, h1, by rw [h2, of_decide_eq_true z4]⟩⟩
end FW

set_option maxRecDepth 100000
set_option maxHeartbeats 2000000
/-! FwH2: a law's end over its facts. -/
namespace FW
open PySem PySem.Spec PyProof.Rows L2
theorem cx_end {P : Program} {w : World} {H : Hp} {s : Shared} {e : Value} {s' : Shared} (h : L2.CX P w [] H s (fun _ _ _ => False) e s') : False := by
  obtain ⟨a, B, H', cls, d, h1, h2, h3, h4, h5, h6, h7, h8⟩ := h
  exact h8
theorem walk_F {l : PySem.W.OpenLaw} {n k : Nat} {q : Program} {loose : List Str} {XP : (Str → Option Value) → Heap → Prop} {YP : World → Heap → Prop} {d : DefRec} {x : Str}
    (hn : l.most = some n) (hn2 : n ≤ sizeLine) (hdf : d.params.defaults = []) (hr : Room k callerA)
    (F : ∀ (w : World) (mg : Str → Option Value) (fa : Addr) (h : Heap), YP w h → h.Ns mainGlobals mg → mg d.name = some (.ref fa) →
      ∃ (K : PySem.W.Frag) (fd : FuncData) (sp : Sp), K.In h ∧ (∀ (s : Shared) (u : Value), BindsTo s fd ⟨[u], []⟩ [(x, u)]) ∧
        (∀ (H : Hp) (a : Addr) (ns : List Int), ns.length ≤ n → (∀ z ∈ ns, Builtin.Int.intBits z ≤ 1048576) → Only H → SqL K H a (ns.map V.int) → sp [.ref a] H (fun v _ => v = .bl true) fun _ _ _ => False) ∧
        ∀ base : Heap, K.In base → base.Ns mainGlobals mg → FnOk l.prog w K mg base (L2.CX l.prog w) k fa fd [x] sp) :
    PySem.W.WalkO q loose XP YP l.row.toRowW d [] (fun f vs => PySem.call f vs) := by
  refine Att.attach_callB hn hdf fun w s₀ s₁ mg mb fa o pm cd doc a vs ns G Y ho hd hcd hmg hobj hints hlen hbits hg => ?_
  obtain ⟨K, fd, sp, KX, hb, hsp, hF⟩ := F w mg fa _ Y G.T.g hmg
  exact law_call KX G.T.g G.T.b G.T.builtins G.T.nolimit hg hobj hints (Nat.le_trans hlen hn2) hr hF hb (fun H hO hS => hsp H a ns hlen hbits hO hS) fun H e s' => cx_end
/-- the law's end: the defs' facts, the program in small form, the plain law -/
theorem law_end {l : PySem.W.OpenLaw} {n k : Nat} {q : Program} {loose : List Str} {XP : (Str → Option Value) → Heap → Prop} {d : DefRec} {x : Str} {cls : List Str} {g : Gc} {ds : List DefI} {Pg : Prg} {m : Nat} {nh L : Nat} {qL : DefI}
    (hn : l.most = some n) (hn2 : n ≤ sizeLine) (hdf : d.params.defaults = []) (hr : Room k callerA)
    (hD : ∀ (i : Nat) (q : DefI), ds[i]? = some q → ∃ f, Pg.fns[i]? = some f ∧ DefOk g m f q) (hlen : Pg.fns.length = ds.length)
    (hsm : ∀ (cn mn f : Nat), g.sm.lookup (cn, mn) = some f → Pg.look cn mn = some (.stat f)) (hsub : ∀ c d, Pg.sub c d = none)
    (hL : ds[L]? = some qL) (hps : qL.ps = [x]) (hgl : g.gl.lookup d.name = some (.fn L))
    (law : ∀ ns : List Int, ns.length ≤ n → (∀ z ∈ ns, Builtin.Int.intBits z ≤ 1048576) → ∃ C', callN Pg k L [.p (.scr (ns.map P.int))] [] = .ok (.p (.bl true)) C') :
    PySem.W.WalkO q loose XP (hookF nh (exF cls g ds) (ds.map (·.d))).says l.row.toRowW d [] (fun f vs => PySem.call f vs) := by
  refine walk_F (x := x) (k := k) hn hn2 hdf hr fun w mg fa h Y G hmg => ?_
  obtain ⟨K, KX, c⟩ := Y
  obtain ⟨e1, e2, e3⟩ := exF_gl KX G c.ex
  have PO : PgOk mg K (nmOf K cls g) g m Pg ds := ⟨rfl, hD, hlen, fun i q hq => c.def_ i (d := q.d) (by rw [List.getElem?_map, hq]; rfl), e1, e2, fun cn mn f m' h1 h2 => ⟨hsm cn mn f h1, e3 cn mn f m' h1 h2⟩, fun c d b hb => by rw [hsub] at hb; cases hb⟩
  have hfa : fa = qL.d.at_ K := by
    obtain ⟨q', h1, h2⟩ := e1 _ _ hgl
    rw [hL] at h1
    cases h1
    rw [hmg] at h2
    cases h2
    rfl
  subst hfa
  obtain ⟨fd, F0⟩ := PO.fd L qL hL
  have fds := fun (base : Heap) => fns_ok (P := l.prog) (w := w) (base := base) PO k L qL hL fd F0
  refine ⟨K, fd, spC (nmOf K cls g) (callN Pg k) L, KX, fun s u => ?_, fun H a ns hl hb hO hS => ?_, fun base hB hG => ?_⟩
  · have z := (fds h).2.2.2 s [u] (by rw [hps]; rfl)
    rw [hps] at z
    exact z
  · obtain ⟨C', hc⟩ := law ns hl hb
    exact law_start hO hS C' hc
  · have z := (fds base).1
    rw [hps] at z
    exact z
end FW

set_option maxRecDepth 100000
set_option maxHeartbeats 2000000
/-! FwL0: the small language's evaluation as equations for simp. -/
namespace FW
open PySem
section
variable {G : Gm} {σ : Env} {C : Cells}
@[simp] theorem gm_call (Pg : Prg) (c : Nat → List D → Cells → R D) : (Pg.gm c).call = c := rfl
@[simp] theorem gm_look (Pg : Prg) (c : Nat → List D → Cells → R D) : (Pg.gm c).look = Pg.look := rfl
@[simp] theorem gm_sub (Pg : Prg) (c : Nat → List D → Cells → R D) : (Pg.gm c).sub = Pg.sub := rfl
@[simp] theorem gm_fuel (Pg : Prg) (c : Nat → List D → Cells → R D) : (Pg.gm c).fuel = Pg.fuel := rfl
@[simp] theorem e_var (i : Nat) : eval G (.var i) σ C = match σ[i]? with
    | some (some d) => .ok d C
    | _ => .stuck := rfl
@[simp] theorem e_cst (x : P) : eval G (.cst x) σ C = .ok (.p x) C := rfl
@[simp] theorem e_bin (o : Op) (a b : Ex) : eval G (.bin o a b) σ C = (eval G a σ C).bnd fun x C1 => (eval G b σ C1).bnd fun y C2 =>
    match view C2 x, view C2 y with
    | some x, some y => ofO ((binP o x y).map .p) C2
    | _, _ => .stuck := rfl
@[simp] theorem e_neg (a : Ex) : eval G (.neg a) σ C = (eval G a σ C).bnd fun x C1 => match view C1 x with
    | some (.int i) => .ok (.p (.int (-i))) C1
    | _ => .stuck := rfl
@[simp] theorem e_cmp (o : COp) (a b : Ex) : eval G (.cmp o a b) σ C = (eval G a σ C).bnd fun x C1 => (eval G b σ C1).bnd fun y C2 =>
    match view C2 x, view C2 y with
    | some x, some y => ofO ((cmpP o x y).map fun b => .p (.bl b)) C2
    | _, _ => .stuck := rfl
@[simp] theorem e_chn (o o' : COp) (a b c : Ex) : eval G (.chn o o' a b c) σ C = (eval G a σ C).bnd fun x C1 => (eval G b σ C1).bnd fun y C2 =>
    match view C2 x, view C2 y with
    | some x, some y' => (ofO (cmpP o x y') C2).bnd fun t C3 => if t then (eval G c σ C3).bnd fun z C4 =>
        match view C4 y, view C4 z with
        | some y, some z => ofO ((cmpP o' y z).map fun b => .p (.bl b)) C4
        | _, _ => .stuck
      else .ok (.p (.bl false)) C3
    | _, _ => .stuck := rfl
@[simp] theorem e_and (a b : Ex) : eval G (.and a b) σ C = (eval G a σ C).bnd fun x C1 => match x with
    | .p (.bl true) => eval G b σ C1
    | .p (.bl false) => .ok (.p (.bl false)) C1
    | _ => .stuck := rfl
@[simp] theorem e_or (a b : Ex) : eval G (.or a b) σ C = (eval G a σ C).bnd fun x C1 => match x with
    | .p (.bl true) => .ok (.p (.bl true)) C1
    | .p (.bl false) => eval G b σ C1
    | _ => .stuck := rfl
@[simp] theorem e_not (a : Ex) : eval G (.not a) σ C = (eval G a σ C).bnd fun x C1 => match x with
    | .p (.bl b) => .ok (.p (.bl (!b))) C1
    | _ => .stuck := rfl
@[simp] theorem e_ite (t : Tx) (a b : Ex) : eval G (.ite t a b) σ C = (evalT G t σ C).bnd fun k C1 => if k then eval G a σ C1 else eval G b σ C1 := rfl
@[simp] theorem e_tup (es : Exs) : eval G (.tup es) σ C = (evals G es σ C).bnd fun ds C1 => (fzs C1 ds).bnd fun xs C2 => if xs.length ≤ big then .ok (.p (.tup xs)) C2 else .stuck := rfl
@[simp] theorem e_lst (k : Bool) (es : Exs) : eval G (.lst k es) σ C = (evals G es σ C).bnd fun ds C1 => (fzs C1 ds).bnd fun xs C2 => if xs.length ≤ big then alloc k (.lst xs) C2 else .stuck := rfl
@[simp] theorem e_idx (a i : Ex) : eval G (.idx a i) σ C = (eval G a σ C).bnd fun x C1 => (eval G i σ C1).bnd fun y C2 =>
    match view C2 x, view C2 y with
    | some x, some y => ofO ((ixP x y).map .p) C2
    | _, _ => .stuck := rfl
@[simp] theorem e_slc (k : Bool) (a lo hi : Ex) : eval G (.slc k a lo hi) σ C = (eval G a σ C).bnd fun x C1 => (eval G lo σ C1).bnd fun l C2 => (ofO ((view C2 l).bind (slI lo)) C2).bnd fun l C2 => (eval G hi σ C2).bnd fun h C3 => (ofO ((view C3 h).bind (slI hi)) C3).bnd fun h C3 =>
    match (view C3 x).bind fun x => slP x l h with
    | some (.lst r) => alloc k (.lst r) C3
    | some r => .ok (.p r) C3
    | none => .stuck := rfl
@[simp] theorem e_call (f : Nat) (k : Bool) (es : Exs) : eval G (.call f k es) σ C = (evals G es σ C).bnd fun ds C1 => fin k C1.length (G.call f ds C1) := rfl
@[simp] theorem e_stat (c m : Nat) (k : Bool) (es : Exs) : eval G (.stat c m k es) σ C = (evals G es σ C).bnd fun ds C1 => match G.look c m with
    | some (.stat f) => fin k C1.length (G.call f ds C1)
    | _ => .stuck := rfl
@[simp] theorem e_bt (b : Bt) (k : Bool) (es : Exs) : eval G (.bt b k es) σ C = (evals G es σ C).bnd fun ds C1 => btD b k C1 ds := rfl
@[simp] theorem e_isi (a : Ex) (ks : List Kd) : eval G (.isi a ks) σ C = (eval G a σ C).bnd fun d C1 => match view C1 d with
    | some x => ofO ((isAny G.sub x ks).map fun b => .p (.bl b)) C1
    | none => .stuck := rfl
@[simp] theorem e_upper (a : Ex) : eval G (.upper a) σ C = (eval G a σ C).bnd fun d C1 => match view C1 d with
    | some (.str s) => if s.length ≤ 5592405 then .ok (.p (.str (Txt.upper s))) C1 else .stuck
    | _ => .stuck := rfl
theorem e_comp (k : Bool) (own : List Nat) (tg : Tg) (it : Itx) (cs : Txs) (e : Ex) : eval G (.comp k own tg it cs e) σ C = (evalI G it σ C).bnd fun q C0 => (fun C1 : Cells =>
      (compL C1.length (fun x C2 => noX (match bindT tg x (wipeE σ own) with
        | some σ1 => (evalC G cs σ1 C2).bnd fun b C3 => if b then (eval G e σ1 C3).bnd fun d C4 => .ok (some d) C4 else .ok none C3
        | none => .stuck)) q.1 (C1 ++ [⟨.mu, .lst []⟩])).bnd fun _ C2 => if C2.length = C1.length + 1 then fin k C1.length (.ok (.c C1.length) (unlkL (lockL q.2 C0).2 C2)) else .stuck) (lockL q.2 C0).1 := rfl
@[simp] theorem es_nil : evals G .nil σ C = .ok [] C := rfl
@[simp] theorem es_cons (e : Ex) (r : Exs) : evals G (.cons e r) σ C = (eval G e σ C).bnd fun d C1 => (evals G r σ C1).bnd fun ds C2 => .ok (d :: ds) C2 := rfl
@[simp] theorem t_ex (e : Ex) : evalT G (.ex e) σ C = (eval G e σ C).bnd fun d C1 => ofO ((view C1 d).bind truP) C1 := rfl
@[simp] theorem t_and (a b : Tx) : evalT G (.and a b) σ C = (evalT G a σ C).bnd fun k C1 => if k then evalT G b σ C1 else .ok false C1 := rfl
@[simp] theorem t_or (a b : Tx) : evalT G (.or a b) σ C = (evalT G a σ C).bnd fun k C1 => if k then .ok true C1 else evalT G b σ C1 := rfl
@[simp] theorem t_not (a : Tx) : evalT G (.not a) σ C = (evalT G a σ C).bnd fun k C1 => .ok (!k) C1 := rfl
@[simp] theorem c_nil : evalC G .nil σ C = .ok true C := rfl
@[simp] theorem c_cons (t : Tx) (r : Txs) : evalC G (.cons t r) σ C = (evalT G t σ C).bnd fun k C1 => if k then evalC G r σ C1 else .ok false C1 := rfl
@[simp] theorem i_val (e : Ex) : evalI G (.val e) σ C = (eval G e σ C).bnd fun d C1 => ofO (((view C1 d).bind itemsL).map fun l => (l, [d])) C1 := rfl
@[simp] theorem i_rng1 (a : Ex) : evalI G (.rng1 a) σ C = (eval G a σ C).bnd fun x C1 => match view C1 x with
    | some (.int j) => if ltB j then .ok (rngU 0 j, []) C1 else .stuck
    | _ => .stuck := rfl
@[simp] theorem i_rng2 (a b : Ex) : evalI G (.rng2 a b) σ C = (eval G a σ C).bnd fun x C1 => (eval G b σ C1).bnd fun y C2 => match view C2 x, view C2 y with
    | some (.int i), some (.int j) => if ltB i && ltB j then .ok (rngU i j, []) C2 else .stuck
    | _, _ => .stuck := rfl
@[simp] theorem x_asg (i : Nat) (e : Ex) : exec G (.asg i e) σ C = O.ofR (eval G e σ C) σ fun d C1 => .nx (σ.set i (some d)) C1 := rfl
@[simp] theorem x_asgI (o i e : Ex) : exec G (.asgI o i e) σ C = O.ofR (eval G e σ C) σ fun d C1 => O.ofR (eval G o σ C1) σ fun a C2 => O.ofR (eval G i σ C2) σ fun j C3 => O.ofR (ofO (view C3 j) C3) σ fun j C3 => O.ofR (fz1 C3 d) σ fun x C4 => putCell C4 a (fun o => setIx o j x) σ := rfl
@[simp] theorem x_aug (i : Nat) (o : Op) (e : Ex) : exec G (.aug i o e) σ C = match σ[i]? with
    | some (some d) => O.ofR (eval G e σ C) σ fun y C1 => match augP o (view C1 d) (view C1 y) with
      | some z => .nx (σ.set i (some (.p z))) C1
      | none => .stuck
    | _ => .stuck := rfl
@[simp] theorem x_mut (m : Mc) (o : Ex) (es : Exs) : exec G (.mut m o es) σ C = O.ofR (eval G o σ C) σ fun a C1 => O.ofR (ofO (lstP (view C1 a)) C1) σ fun _ C1 => O.ofR (evals G es σ C1) σ fun ds C2 => O.ofR (fzs C2 ds) σ fun xs C3 => putCell C3 a (mutF m xs) σ := rfl
@[simp] theorem x_expr (e : Ex) : exec G (.expr e) σ C = O.ofR (eval G e σ C) σ fun _ C1 => .nx σ C1 := rfl
@[simp] theorem x_ret (e : Ex) : exec G (.ret e) σ C = O.ofR (eval G e σ C) σ fun d C1 => .rt d C1 := rfl
@[simp] theorem x_retN : exec G .retN σ C = .rt (.p .non) C := rfl
@[simp] theorem x_ife (t : Tx) (a b : Ss) : exec G (.ife t a b) σ C = O.ofR (evalT G t σ C) σ fun k C1 => if k then execs G a σ C1 else execs G b σ C1 := rfl
theorem x_for (tg : Tg) (it : Itx) (b : Ss) : exec G (.for tg it b) σ C = O.ofR (evalI G it σ C) σ fun q C0 => (forL tg (execs G b) q.1 σ (lockL q.2 C0).1).unlk (lockL q.2 C0).2 := rfl
theorem x_whl (t : Tx) (b : Ss) : exec G (.whl t b) σ C = whlL (evalT G t) (execs G b) G.fuel σ C := rfl
@[simp] theorem x_pass : exec G .pass σ C = .nx σ C := rfl
@[simp] theorem x_brk : exec G .brk σ C = .bk σ C := rfl
@[simp] theorem x_cnt : exec G .cnt σ C = .ct σ C := rfl
@[simp] theorem xs_nil : execs G .nil σ C = .nx σ C := rfl
@[simp] theorem xs_cons (s : St) (r : Ss) : execs G (.cons s r) σ C = (exec G s σ C).seq fun σ1 C1 => execs G r σ1 C1 := rfl
theorem call_eq {Pg : Prg} {i : Nat} {f : FnI} (hf : Pg.fns[i]? = some f) {n : Nat} {ds : List D} (hl : ds.length = f.np) : callN Pg (n + 1) i ds C = (execs (Pg.gm (callN Pg n)) f.body (startE f ds) C).toR := by
  show (match Pg.fns[i]? with
    | some i => if ds.length = i.np then (execs (Pg.gm (callN Pg n)) i.body (startE i ds) C).toR else .stuck
    | none => .stuck) = _
  rw [hf]
  exact if_pos hl
@[simp] theorem fzs_nil : fzs C [] = .ok [] C := rfl
@[simp] theorem fzs_p (x : P) (ds : List D) : fzs C (.p x :: ds) = (fzs C ds).bnd fun xs C2 => .ok (x :: xs) C2 := rfl
@[simp] theorem view_c (n : Nat) : view C (.c n) = (C[n]?).map (·.ob) := rfl
@[simp] theorem toR_rt (d : D) : (O.rt d C).toR = .ok d C := rfl
@[simp] theorem toR_nx : (O.nx σ C).toR = .ok (.p .non) C := rfl
theorem fin_p (k : Bool) (n : Nat) (x : P) : fin k n (.ok (.p x) C) = .ok (.p x) (C.take n) := rfl
@[simp] theorem fin_same (k : Bool) (x : P) : fin k C.length (.ok (.p x) C) = .ok (.p x) C := by rw [fin_p, List.take_length]
@[simp] theorem fin_n {n : Nat} (h : C.length = n) (k : Bool) (x : P) : fin k n (.ok (.p x) C) = .ok (.p x) C := by subst h; exact fin_same k x
end
theorem big_is : big = 16777216 := rfl
/-! ### the values' operations -/
@[simp] theorem b_add (i j : Int) : binP .add (.int i) (.int j) = some (.int (i + j)) := rfl
@[simp] theorem b_sub (i j : Int) : binP .sub (.int i) (.int j) = some (.int (i - j)) := rfl
theorem b_mul {i j : Int} (h : mulOk i j = true) : binP .mul (.int i) (.int j) = some (.int (i * j)) := if_pos h
theorem b_fdiv {i j : Int} (h : divOk j = true) : binP .fdiv (.int i) (.int j) = some (.int (i / j)) := if_pos h
theorem b_mod {i j : Int} (h : 0 < j) : binP .mod (.int i) (.int j) = some (.int (i % j)) := if_pos h
theorem b_pow {i j : Int} (h : 0 ≤ j ∧ j ≤ 1000000 ∧ i.natAbs < 2 ^ 64) : binP .pow (.int i) (.int j) = some (.int (i ^ j.toNat)) := if_pos h
theorem b_addS {s t : PySem.Str} (h : s.length + t.length ≤ big) : binP .add (.str s) (.str t) = some (.str (s ++ t)) := if_pos h
theorem mulOk_l {i j : Int} (h : i.natAbs < 2 ^ 64) : mulOk i j = true := by simp [mulOk, h]
theorem mulOk_r {i j : Int} (h : j.natAbs < 2 ^ 64) : mulOk i j = true := by simp [mulOk, h]
@[simp] theorem cmp_eqI (i j : Int) : cmpP .eq (.int i) (.int j) = some (i == j) := rfl
@[simp] theorem cmp_neI (i j : Int) : cmpP .ne (.int i) (.int j) = some (!(i == j)) := rfl
@[simp] theorem cmp_eqB (i j : Bool) : cmpP .eq (.bl i) (.bl j) = some (i == j) := rfl
@[simp] theorem cmp_neB (i j : Bool) : cmpP .ne (.bl i) (.bl j) = some (!(i == j)) := rfl
@[simp] theorem cmp_eqS (i j : PySem.Str) : cmpP .eq (.str i) (.str j) = some (i == j) := rfl
@[simp] theorem cmp_ltI (i j : Int) : cmpP .lt (.int i) (.int j) = some (decide (i < j)) := rfl
@[simp] theorem cmp_leI (i j : Int) : cmpP .le (.int i) (.int j) = some (decide (i ≤ j)) := rfl
@[simp] theorem cmp_gtI (i j : Int) : cmpP .gt (.int i) (.int j) = some (decide (j < i)) := rfl
@[simp] theorem cmp_geI (i j : Int) : cmpP .ge (.int i) (.int j) = some (decide (j ≤ i)) := rfl
@[simp] theorem tru_bl (b : Bool) : truP (.bl b) = some b := rfl
@[simp] theorem tru_int (i : Int) : truP (.int i) = some (i != 0) := rfl
@[simp] theorem bt_int (i : Int) : btP1 .int (.int i) = some (.int i, false) := rfl
@[simp] theorem bt_max (i j : Int) : btP2 .max (.int i) (.int j) = some (.int (if j > i then j else i), false) := rfl
@[simp] theorem bt_min (i j : Int) : btP2 .min (.int i) (.int j) = some (.int (if j < i then j else i), false) := rfl
@[simp] theorem btD1 {b : Bt} {k : Bool} {C : Cells} {d : D} : btD b k C [d] = btR k C ((view C d).bind (btP1 b)) := rfl
@[simp] theorem btD2 {b : Bt} {k : Bool} {C : Cells} {d e : D} : btD b k C [d, e] = btR k C ((view C d).bind fun x => (view C e).bind fun y => btP2 b x y) := rfl
@[simp] theorem btR_f {k : Bool} {C : Cells} {x : P} : btR k C (some (x, false)) = .ok (.p x) C := rfl
@[simp] theorem btR_t {k : Bool} {C : Cells} {x : P} : btR k C (some (x, true)) = alloc k x C := rfl
@[simp] theorem len_lst (l : List P) : lenP (.lst l) = some l.length := rfl
@[simp] theorem len_scr (l : List P) : lenP (.scr l) = some l.length := rfl
theorem len_str {s : PySem.Str} (h : s.length ≤ big) : lenP (.str s) = some s.length := if_pos h
@[simp] theorem bt_len (x : P) : btP1 .len x = (lenP x).map fun (n : Nat) => (P.int (n : Int), false) := by cases x <;> rfl
@[simp] theorem ix_lst (l : List P) (i : Int) : ixP (.lst l) (.int i) = L2.atI l i := rfl
@[simp] theorem set_lst (l : List P) (i : Int) (x : P) : setIx (.lst l) (.int i) x = (L2.ixN l.length i).map fun j => .lst (l.set j x) := rfl
end FW

set_option maxRecDepth 100000
set_option maxHeartbeats 2000000
/-! FwL1: the laws' draws. -/
namespace FW
open PySem
def bMixed : Ss := (.cons (.asg 2 (.bin .mod (.bt .int false (.cons (.bin .add (.bin .add (.bin .mul (.var 0) (.cst (.int 48271))) (.bin .mul (.var 1) (.cst (.int 69621)))) (.cst (.int 12345))) .nil)) (.cst (.int 2147483647))))
  (.cons (.asg 3 (.bin .mod (.bt .int false (.cons (.bin .mul (.var 2) (.bin .add (.bin .add (.bin .fdiv (.var 2) (.cst (.int 127))) (.var 1)) (.cst (.int 7)))) .nil)) (.cst (.int 2147483629))))
  (.cons (.asg 4 (.bin .mod (.bt .int false (.cons (.bin .add (.bin .mul (.var 3) (.bin .add (.bin .fdiv (.var 3) (.cst (.int 8191))) (.cst (.int 16807)))) (.bin .fdiv (.var 2) (.cst (.int 65536)))) .nil)) (.cst (.int 1000000007))))
  (.cons (.ret (.bin .fdiv (.var 4) (.cst (.int 5))))
  .nil))))
theorem mul_m {x m y : Int} (hm : 0 < m) (h : m < 2 ^ 64) : mulOk (x % m) y = true := mulOk_l (by
  have h1 := Int.emod_nonneg x (show m ≠ 0 by omega)
  have h2 := Int.emod_lt_of_pos x hm
  have : (2 : Int) ^ 64 = 18446744073709551616 := by decide
  have : (2 : Nat) ^ 64 = 18446744073709551616 := by decide
  omega)
theorem mixed_ok {Pg : Prg} {im : Nat} (hm : Pg.fns[im]? = some ⟨2, 5, bMixed⟩) (n : Nat) (a b : Int) (C : Cells) : ∃ r, callN Pg (n + 1) im [.p (.int a), .p (.int b)] C = .ok (.p (.int r)) C := by
  rw [call_eq hm rfl]
  have d1 : divOk 127 = true := by decide
  have d2 : divOk 8191 = true := by decide
  have d3 : divOk 65536 = true := by decide
  have d4 : divOk 5 = true := by decide
  have m1 : ∀ x : Int, mulOk x 48271 = true := fun x => mulOk_r (by decide)
  have m2 : ∀ x : Int, mulOk x 69621 = true := fun x => mulOk_r (by decide)
  simp [bMixed, startE, b_mul, b_mod, b_fdiv, m1, m2, d1, d2, d3, d4, mul_m]
def bDraw (im : Nat) : Ss := (.cons (.asgI (.var 0) (.cst (.int 3)) (.bin .add (.idx (.var 0) (.cst (.int 3))) (.cst (.int 1))))
  (.cons (.ife (.ex (.cmp .gt (.idx (.var 0) (.cst (.int 2))) (.cst (.int 1)))) (.cons (.asg 3 (.bin .mod (.bt .int false (.cons (.idx (.var 0) (.cst (.int 2))) .nil)) (.var 1)))
  (.cons (.asgI (.var 0) (.cst (.int 2)) (.bin .fdiv (.idx (.var 0) (.cst (.int 2))) (.var 1)))
  (.cons (.ret (.var 3))
  .nil))) .nil)
  (.cons (.ife (.ex (.cmp .eq (.bt .len false (.cons (.idx (.var 0) (.cst (.int 0))) .nil)) (.cst (.int 0)))) (.cons (.ret (.cst (.int 0)))
  .nil) .nil)
  (.cons (.ife (.ex (.cmp .ge (.idx (.var 0) (.cst (.int 1))) (.bt .len false (.cons (.idx (.var 0) (.cst (.int 0))) .nil)))) (.cons (.ret (.bin .mod (.bt .int false (.cons (.call im false (.cons (.idx (.var 0) (.cst (.int 4))) (.cons (.idx (.var 0) (.cst (.int 3))) .nil))) .nil)) (.var 1)))
  .nil) .nil)
  (.cons (.asg 2 (.idx (.idx (.var 0) (.cst (.int 0))) (.idx (.var 0) (.cst (.int 1)))))
  (.cons (.asgI (.var 0) (.cst (.int 4)) (.bin .mod (.bt .int false (.cons (.bin .add (.bin .mul (.idx (.var 0) (.cst (.int 4))) (.cst (.int 31))) (.var 2)) .nil)) (.cst (.int 1000003))))
  (.cons (.ife (.ex (.cmp .ge (.var 2) (.bin .pow (.cst (.int 10)) (.cst (.int 18))))) (.cons (.asgI (.var 0) (.cst (.int 1)) (.bin .add (.idx (.var 0) (.cst (.int 1))) (.cst (.int 1))))
  (.cons (.asgI (.var 0) (.cst (.int 2)) (.bin .fdiv (.var 2) (.var 1)))
  (.cons (.ret (.bin .mod (.bt .int false (.cons (.var 2) .nil)) (.var 1)))
  .nil))) .nil)
  (.cons (.ife (.ex (.cmp .eq (.bin .mod (.bt .int false (.cons (.idx (.var 0) (.cst (.int 3))) .nil)) (.cst (.int 3))) (.cst (.int 0)))) (.cons (.asgI (.var 0) (.cst (.int 1)) (.bin .add (.idx (.var 0) (.cst (.int 1))) (.cst (.int 1))))
  .nil) .nil)
  (.cons (.ret (.bin .mod (.bt .int false (.cons (.call im false (.cons (.var 2) (.cons (.idx (.var 0) (.cst (.int 3))) .nil))) .nil)) (.var 1)))
  .nil)))))))))
/-- the draws' state -/
def pool (ns : List Int) (a b c d : Int) : P := .lst [.lst (ns.map .int), .int a, .int b, .int c, .int d]
section
variable {ns : List Int} {a b c d x : Int}
@[simp] theorem pool_0 : ixP (pool ns a b c d) (.int 0) = some (.lst (ns.map .int)) := rfl
@[simp] theorem pool_1 : ixP (pool ns a b c d) (.int 1) = some (.int a) := rfl
@[simp] theorem pool_2 : ixP (pool ns a b c d) (.int 2) = some (.int b) := rfl
@[simp] theorem pool_3 : ixP (pool ns a b c d) (.int 3) = some (.int c) := rfl
@[simp] theorem pool_4 : ixP (pool ns a b c d) (.int 4) = some (.int d) := rfl
@[simp] theorem pool_s1 : setIx (pool ns a b c d) (.int 1) (.int x) = some (pool ns x b c d) := rfl
@[simp] theorem pool_s2 : setIx (pool ns a b c d) (.int 2) (.int x) = some (pool ns a x c d) := rfl
@[simp] theorem pool_s3 : setIx (pool ns a b c d) (.int 3) (.int x) = some (pool ns a b x d) := rfl
@[simp] theorem pool_s4 : setIx (pool ns a b c d) (.int 4) (.int x) = some (pool ns a b c x) := rfl
end
theorem atI_nn {l : List Int} {i : Int} (h0 : 0 ≤ i) (h1 : i < l.length) : L2.atI (l.map P.int) i = some (.int (l.getD i.toNat 0)) := by
  obtain ⟨k, rfl⟩ := Int.eq_ofNat_of_zero_le h0
  have hk : k < l.length := by omega
  unfold L2.atI L2.ixN
  simp [hk]
theorem putC {C : Cells} {j : Nat} {o : P} {f : P → Option P} {σ : Env} (h : C[j]? = some ⟨.mu, o⟩) : putCell C (.c j) f σ = match f o with
    | some o' => .nx σ (C.set j ⟨.mu, o'⟩)
    | none => .stuck := by
  show (match C[j]? with
    | some ⟨.mu, o⟩ => match f o with
      | some o' => O.nx σ (C.set j ⟨.mu, o'⟩)
      | none => .stuck
    | _ => .stuck) = _
  rw [h]
theorem draw_ok {Pg : Prg} {im id : Nat} (hm : Pg.fns[im]? = some ⟨2, 5, bMixed⟩) (hd : Pg.fns[id]? = some ⟨2, 4, bDraw im⟩) (n : Nat) {C : Cells} {j : Nat} {ns : List Int} {a b c d : Int} (hj : C[j]? = some ⟨.mu, pool ns a b c d⟩) (ha : 0 ≤ a) {m : Int} (h0 : 0 < m) (hdv : divOk m = true) :
    ∃ r a' b' c' d', 0 ≤ a' ∧ 0 ≤ r ∧ r < m ∧ callN Pg (n + 2) id [.c j, .p (.int m)] C = .ok (.p (.int r)) (C.set j ⟨.mu, pool ns a' b' c' d'⟩) := by
  obtain ⟨mx, hmx⟩ : ∃ mx : Int → Int → Cells → Int, ∀ a b C, callN Pg (n + 1) im [.p (.int a), .p (.int b)] C = .ok (.p (.int (mx a b C))) C := ⟨fun a b C => match callN Pg (n + 1) im [.p (.int a), .p (.int b)] C with
    | .ok (.p (.int r)) _ => r
    | _ => 0, fun a b C => by obtain ⟨r, e⟩ := mixed_ok hm n a b C; simp only [e]⟩
  have hl := (List.getElem?_eq_some_iff.mp hj).1
  have gs : ∀ x, (C.set j x)[j]? = some x := fun x => List.getElem?_set_self hl
  have pc := @putC C j
  have pcs : ∀ (x : P) (f : P → Option P) (σ : Env), putCell (C.set j ⟨.mu, x⟩) (.c j) f σ = match f x with
    | some o' => .nx σ ((C.set j ⟨.mu, x⟩).set j ⟨.mu, o'⟩)
    | none => .stuck := fun x f σ => putC (gs _)
  have d3 : (0 : Int) < 3 := by decide
  have dd : (0 : Int) < 1000003 := by decide
  have m31 : ∀ x : Int, mulOk x 31 = true := fun x => mulOk_r (by decide)
  have pw : (0 : Int) ≤ 18 ∧ (18 : Int) ≤ 1000000 ∧ (10 : Int).natAbs < 2 ^ 64 := by decide
  have md : ∀ x : Int, 0 ≤ x % m ∧ x % m < m := fun x => ⟨Int.emod_nonneg x (by omega), Int.emod_lt_of_pos x h0⟩
  rw [call_eq hd rfl]
  by_cases h1 : 1 < b
  · refine ⟨b % m, a, b / m, c + 1, d, ha, (md _).1, (md _).2, ?_⟩
    simp [bDraw, startE, hj, putC hj, pcs, gs, h1, b_mod h0, b_fdiv hdv]
  by_cases h2 : ns = []
  · subst h2
    refine ⟨0, a, b, c + 1, d, ha, Int.le_refl _, h0, ?_⟩
    simp [bDraw, startE, hj, putC hj, pcs, gs, h1]
  have h2' : ¬ ns.length = 0 := fun e => h2 (List.length_eq_zero_iff.mp e)
  by_cases h3 : (ns.length : Int) ≤ a
  · refine ⟨_, a, b, c + 1, d, ha, (md (mx d (c + 1) (C.set j ⟨.mu, pool ns a b (c + 1) d⟩))).1, (md _).2, ?_⟩
    simp [bDraw, startE, hj, putC hj, pcs, gs, h1, h2, h2', h3, b_mod h0, hmx]
  have hat := atI_nn ha (Int.not_le.mp h3)
  generalize hcell : ns.getD a.toNat 0 = q at hat
  by_cases h4 : (1000000000000000000 : Int) ≤ q
  · refine ⟨q % m, a + 1, q / m, c + 1, (d * 31 + q) % 1000003, by omega, (md _).1, (md _).2, ?_⟩
    simp [bDraw, startE, hj, putC hj, pcs, gs, h1, h2, h2', h3, b_mod h0, b_mod dd, b_mul (m31 _), b_fdiv hdv, hat, b_pow pw, h4]
  by_cases h5 : (c + 1) % 3 = 0
  · refine ⟨mx q (c + 1) (C.set j ⟨.mu, pool ns (a + 1) b (c + 1) ((d * 31 + q) % 1000003)⟩) % m, a + 1, b, c + 1, (d * 31 + q) % 1000003, by omega, (md _).1, (md _).2, ?_⟩
    simp [bDraw, startE, hj, putC hj, pcs, gs, h1, h2, h2', h3, b_mod h0, b_mod dd, b_mod d3, b_mul (m31 _), b_fdiv hdv, hat, b_pow pw, h4, h5, hmx]
  · refine ⟨mx q (c + 1) (C.set j ⟨.mu, pool ns a b (c + 1) ((d * 31 + q) % 1000003)⟩) % m, a, b, c + 1, (d * 31 + q) % 1000003, ha, (md _).1, (md _).2, ?_⟩
    simp [bDraw, startE, hj, putC hj, pcs, gs, h1, h2, h2', h3, b_mod h0, b_mod dd, b_mod d3, b_mul (m31 _), b_fdiv hdv, hat, b_pow pw, h4, h5, hmx]
end FW

set_option maxRecDepth 100000
set_option maxHeartbeats 2000000
/-! FwL2: draws from any state, loops. -/
namespace FW
open PySem
/-- the cell j holds a state of the draws -/
def Ps (C : Cells) (j : Nat) : Prop := ∃ ns a b c d, 0 ≤ a ∧ C[j]? = some ⟨.mu, pool ns a b c d⟩
theorem divOk_s {j : Int} (h0 : 0 < j) (h : j < 9000) : divOk j = true := by
  unfold divOk
  have h1 : j.natAbs.log2 ≤ j.natAbs := Nat.log2_le_self _
  simp only [Bool.and_eq_true, decide_eq_true_eq]
  exact ⟨h0, by omega⟩
theorem draw_ps {Pg : Prg} {im id : Nat} (hm : Pg.fns[im]? = some ⟨2, 5, bMixed⟩) (hd : Pg.fns[id]? = some ⟨2, 4, bDraw im⟩) (n : Nat) {C : Cells} {j : Nat} (h : Ps C j) {m : Int} (h0 : 0 < m) (h9 : m < 9000) :
    ∃ r C', Ps C' j ∧ C'.length = C.length ∧ 0 ≤ r ∧ r < m ∧ callN Pg (n + 2) id [.c j, .p (.int m)] C = .ok (.p (.int r)) C' := by
  obtain ⟨ns, a, b, c, d, ha, hj⟩ := h
  obtain ⟨r, a', b', c', d', ha', h1, h2, e⟩ := draw_ok hm hd n hj ha h0 (divOk_s h0 h9)
  exact ⟨r, _, ⟨ns, a', b', c', d', ha', List.getElem?_set_self (List.getElem?_eq_some_iff.mp hj).1⟩, by simp, h1, h2, e⟩
theorem forL_nx {tg : Tg} {body : Env → Cells → O} {I : Nat → Env → Cells → Prop} : ∀ (xs : List P) (k : Nat), (∀ i x σ C, xs[i]? = some x → I (k + i) σ C → ∃ σ1 σ2 C2, bindT tg x σ = some σ1 ∧ body σ1 C = .nx σ2 C2 ∧ I (k + i + 1) σ2 C2) →
    ∀ (σ : Env) (C : Cells), I k σ C → ∃ σ' C', I (k + xs.length) σ' C' ∧ forL tg body xs σ C = .nx σ' C'
  | [], k, _, σ, C, h => ⟨σ, C, h, rfl⟩
  | x :: xs, k, hs, σ, C, h => by
    obtain ⟨σ1, σ2, C2, h1, h2, h3⟩ := hs 0 x σ C rfl h
    obtain ⟨σ', C', h4, h5⟩ := forL_nx xs (k + 1) (fun i y σ C hy hi => by
      have := hs (i + 1) y σ C hy (by rw [show k + (i + 1) = k + 1 + i by omega]; exact hi)
      rw [show k + (i + 1) + 1 = k + 1 + i + 1 by omega] at this
      exact this) σ2 C2 h3
    refine ⟨σ', C', by rw [show k + (x :: xs).length = k + 1 + xs.length by simp; omega]; exact h4, ?_⟩
    show (match bindT tg x σ with
      | none => O.stuck
      | some σ1 => match body σ1 C with
        | .nx σ2 C2 => forL tg body xs σ2 C2
        | .ct σ2 C2 => forL tg body xs σ2 C2
        | .bk σ2 C2 => .nx σ2 C2
        | o => o) = _
    rw [h1]
    show (match body σ1 C with
      | .nx σ2 C2 => forL tg body xs σ2 C2
      | .ct σ2 C2 => forL tg body xs σ2 C2
      | .bk σ2 C2 => .nx σ2 C2
      | o => o) = _
    rw [h2]
    exact h5
/-- a comprehension whose block leaves the cells alone -/
theorem compL_ok {one : P → Cells → R (Option D)} {f : P → Option P} {n : Nat} : ∀ (xs : List P) (C : Cells) (acc : List P), C.length = n → (∀ x ∈ xs, ∀ C, one x C = .ok ((f x).map .p) C) → acc.length + xs.length ≤ big →
    compL n one xs (C ++ [⟨.mu, .lst acc⟩]) = .ok () (C ++ [⟨.mu, .lst (acc ++ xs.filterMap f)⟩])
  | [], C, acc, hn, _, _ => by simp [compL]
  | x :: xs, C, acc, hn, h, hl => by
    have e : compL n one (x :: xs) (C ++ [⟨.mu, .lst acc⟩]) = (one x (C ++ [⟨.mu, .lst acc⟩])).bnd fun o C1 => match o with
      | none => compL n one xs C1
      | some d => (fz1 C1 d).bnd fun y C2 => match C2[n]? with
        | some ⟨.mu, .lst l⟩ => if l.length < big ∧ C2.length = n + 1 then compL n one xs (C2.set n ⟨.mu, .lst (l ++ [y])⟩) else .stuck
        | _ => .stuck := rfl
    rw [e, h x List.mem_cons_self]
    have hl' : acc.length + (xs.length + 1) ≤ big := hl
    cases hf : f x with
    | none =>
      have := compL_ok xs C acc hn (fun y hy => h y (List.mem_cons_of_mem _ hy)) (by omega)
      simp only [R.bnd_ok, Option.map_none, List.filterMap_cons, hf]
      exact this
    | some y =>
      have := compL_ok xs C (acc ++ [y]) hn (fun y hy => h y (List.mem_cons_of_mem _ hy)) (by simp; omega)
      have g : (C ++ [(⟨.mu, .lst acc⟩ : Cl)])[n]? = some ⟨.mu, .lst acc⟩ := by rw [List.getElem?_append_right (by omega), hn]; simp
      have s : (C ++ [(⟨.mu, .lst acc⟩ : Cl)]).set n ⟨.mu, .lst (acc ++ [y])⟩ = C ++ [⟨.mu, .lst (acc ++ [y])⟩] := by
        rw [List.set_append_right _ _ (by omega), hn]; simp
      simp only [R.bnd_ok, Option.map_some, fz1_p, g, List.filterMap_cons, hf]
      rw [if_pos ⟨by omega, by simp [hn]⟩, s, this, List.append_assoc]
      rfl
theorem fin_new {C : Cells} {o : P} : fin false C.length (.ok (.c C.length) (C ++ [⟨.mu, o⟩])) = .ok (.p o) C := by
  unfold fin
  simp
theorem fin_newT {C : Cells} {o : P} : fin true C.length (.ok (.c C.length) (C ++ [⟨.mu, o⟩])) = .ok (.c C.length) (C ++ [⟨.mu, o⟩]) := by
  unfold fin
  simp
/-- .. as a value -/
theorem comp_ok {G : Gm} {own : List Nat} {tg : Tg} {it : Itx} {cs : Txs} {e : Ex} {σ : Env} {C : Cells} {xs : List P} {f : P → Option P} (hi : evalI G it σ C = .ok (xs, []) C ∨ ∃ x, evalI G it σ C = .ok (xs, [.p x]) C)
    (h : ∀ x ∈ xs, ∀ C, noX (match bindT tg x (wipeE σ own) with
        | some σ1 => (evalC G cs σ1 C).bnd fun b C3 => if b then (eval G e σ1 C3).bnd fun d C4 => .ok (some d) C4 else .ok none C3
        | none => .stuck) = .ok ((f x).map .p) C) (hl : xs.length ≤ big) : eval G (.comp false own tg it cs e) σ C = .ok (.p (.lst (xs.filterMap f))) C := by
  have core : ∀ ls : List D, (lockL ls C) = (C, []) → (fun C1 : Cells =>
      (compL C1.length (fun x C2 => noX (match bindT tg x (wipeE σ own) with
        | some σ1 => (evalC G cs σ1 C2).bnd fun b C3 => if b then (eval G e σ1 C3).bnd fun d C4 => .ok (some d) C4 else .ok none C3
        | none => .stuck)) xs (C1 ++ [⟨.mu, .lst []⟩])).bnd fun _ C2 => if C2.length = C1.length + 1 then fin false C1.length (.ok (.c C1.length) (unlkL (lockL ls C).2 C2)) else .stuck) (lockL ls C).1 = .ok (.p (.lst (xs.filterMap f))) C := fun ls hls => by
    rw [hls]
    have := compL_ok (n := C.length) (f := f) xs C [] rfl h (by simpa using hl)
    dsimp only
    rw [this]
    simp only [R.bnd_ok, List.nil_append, unlkL_nil]
    rw [if_pos (by simp)]
    exact fin_new
  rw [e_comp]
  rcases hi with hi | ⟨x, hi⟩
  · rw [hi]; exact core [] rfl
  · rw [hi]; exact core [.p x] rfl
end FW

set_option maxRecDepth 100000
set_option maxHeartbeats 0
namespace Lk01
open PySem PySem.Spec PyProof.Rows L2
def top (i : Nat) : Stmt := PySem.Challenge.pw_rivalspots_k01_names.main.body.getD i (.Pass ⟨0, 0, 0, 0⟩)
abbrev s0 : Stmt := inClass (top 10) 3
def q0 : FW.DefI := ⟨⟨fun K => He5.wf K (He.ga K "Kinds") "staticmethod" "is_name", "is_name", "Kinds.is_name", defArgs s0, defBody s0, defScope s0, [], []⟩, ["text", "letter"], ["text"], []⟩
abbrev s1 : Stmt := top 12
def q1 : FW.DefI := ⟨⟨fun K => He.ga K "_law_pool", "_law_pool", "_law_pool", defArgs s1, defBody s1, defScope s1, [], []⟩, ["_law_script", "_law_cell"], ["_law_script"], []⟩
abbrev s2 : Stmt := top 13
def q2 : FW.DefI := ⟨⟨fun K => He.ga K "_law_mixed", "_law_mixed", "_law_mixed", defArgs s2, defBody s2, defScope s2, [], []⟩, ["_law_number", "_law_turn", "_law_once", "_law_more", "_law_twice"], ["_law_number", "_law_turn"], []⟩
abbrev s3 : Stmt := top 14
def q3 : FW.DefI := ⟨⟨fun K => He.ga K "_law_draw", "_law_draw", "_law_draw", defArgs s3, defBody s3, defScope s3, [], []⟩, ["_law_pool_here", "_law_many", "_law_cell", "_law_told"], ["_law_pool_here", "_law_many"], ["_law_pool_here", "_law_told"]⟩
abbrev s4 : Stmt := top 15
def q4 : FW.DefI := ⟨⟨fun K => He.ga K "_law_some", "_law_some", "_law_some", defArgs s4, defBody s4, defScope s4, [], []⟩, ["_law_pool_here", "_law_usual", "_law_most"], ["_law_pool_here", "_law_usual", "_law_most"], ["_law_pool_here"]⟩
abbrev s5 : Stmt := top 16
def q5 : FW.DefI := ⟨⟨fun K => He.ga K "_law_sign", "_law_sign", "_law_sign", defArgs s5, defBody s5, defScope s5, [], []⟩, ["_law_pool_here", "_law_signs", "_law_edges"], ["_law_pool_here"], ["_law_pool_here"]⟩
abbrev s6 : Stmt := top 17
def q6 : FW.DefI := ⟨⟨fun K => He.ga K "_law_text", "_law_text", "_law_text", defArgs s6, defBody s6, defScope s6, [], []⟩, ["_law_pool_here", "_law_letters", "_law_size", "_law_way", "_law_odd", "_law_told", "_law_at", "_law_sign_here"], ["_law_pool_here"], ["_law_pool_here", "_law_told"]⟩
abbrev s7 : Stmt := top 18
def q7 : FW.DefI := ⟨⟨fun K => He.ga K "_law_due", "_law_due", "_law_due", defArgs s7, defBody s7, defScope s7, [], []⟩, ["_law_text_here", "_law_good", "_law_sign_here"], ["_law_text_here"], []⟩
abbrev s8 : Stmt := top 19
def q8 : FW.DefI := ⟨⟨fun K => He.ga K "_law_tells", "_law_tells", "_law_tells", defArgs s8, defBody s8, defScope s8, [], []⟩, ["_law_text_here", "_law_told"], ["_law_text_here"], []⟩
abbrev s9 : Stmt := top 20
def q9 : FW.DefI := ⟨⟨fun K => He.ga K "law", "law", "law", defArgs s9, defBody s9, defScope s9, [], []⟩, ["_law_script", "_law_pool_here", "_law_first", "_law_other", "_law_text_here"], ["_law_script"], ["_law_pool_here"]⟩
def ds : List FW.DefI := [q0, q1, q2, q3, q4, q5, q6, q7, q8, q9]
def cls : List PySem.Str := ["SpotError", "BadName", "BadNumber", "DoubleName", "BadKind", "Kinds"]
def g : FW.Gc := ⟨[("_law_pool", .fn 1), ("_law_mixed", .fn 2), ("_law_draw", .fn 3), ("_law_some", .fn 4), ("_law_sign", .fn 5), ("_law_text", .fn 6), ("_law_due", .fn 7), ("_law_tells", .fn 8), ("law", .fn 9), ("Kinds", .cls 5), ("LETTERS", .con (.str "abcdefghijklmnopqrstuvwxyz")), ("LONGEST", .con (.int 12))], ["len", "int", "bool", "max", "range", "isinstance"], ["is_name"], [((5, 0), 0)]⟩
def b0 : FW.Ss := (.cons (.ife (.not (.ex (.chn .le .le (.cst (.int 1)) (.bt .len false (.cons (.var 0) .nil)) (.cst (.int 12))))) (.cons (.ret (.cst (.bl false)))
  .nil) .nil)
  (.cons (.for (.nm 1) (.val (.var 0)) (.cons (.ife (.ex (.cmp .nin (.var 1) (.cst (.str "abcdefghijklmnopqrstuvwxyz")))) (.cons (.ret (.cst (.bl false)))
  .nil) .nil)
  .nil))
  (.cons (.ret (.cst (.bl true)))
  .nil)))
def b1 : FW.Ss := (.cons (.ret (.lst true (.cons (.comp false [1] (.nm 1) (.val (.var 0)) .nil (.bt .int false (.cons (.var 1) .nil))) (.cons (.cst (.int 0)) (.cons (.cst (.int 0)) (.cons (.cst (.int 0)) (.cons (.bt .len false (.cons (.var 0) .nil)) .nil)))))))
  .nil)
def b2 : FW.Ss := (.cons (.asg 2 (.bin .mod (.bt .int false (.cons (.bin .add (.bin .add (.bin .mul (.var 0) (.cst (.int 48271))) (.bin .mul (.var 1) (.cst (.int 69621)))) (.cst (.int 12345))) .nil)) (.cst (.int 2147483647))))
  (.cons (.asg 3 (.bin .mod (.bt .int false (.cons (.bin .mul (.var 2) (.bin .add (.bin .add (.bin .fdiv (.var 2) (.cst (.int 127))) (.var 1)) (.cst (.int 7)))) .nil)) (.cst (.int 2147483629))))
  (.cons (.asg 4 (.bin .mod (.bt .int false (.cons (.bin .add (.bin .mul (.var 3) (.bin .add (.bin .fdiv (.var 3) (.cst (.int 8191))) (.cst (.int 16807)))) (.bin .fdiv (.var 2) (.cst (.int 65536)))) .nil)) (.cst (.int 1000000007))))
  (.cons (.ret (.bin .fdiv (.var 4) (.cst (.int 5))))
  .nil))))
def b3 : FW.Ss := (.cons (.asgI (.var 0) (.cst (.int 3)) (.bin .add (.idx (.var 0) (.cst (.int 3))) (.cst (.int 1))))
  (.cons (.ife (.ex (.cmp .gt (.idx (.var 0) (.cst (.int 2))) (.cst (.int 1)))) (.cons (.asg 3 (.bin .mod (.bt .int false (.cons (.idx (.var 0) (.cst (.int 2))) .nil)) (.var 1)))
  (.cons (.asgI (.var 0) (.cst (.int 2)) (.bin .fdiv (.idx (.var 0) (.cst (.int 2))) (.var 1)))
  (.cons (.ret (.var 3))
  .nil))) .nil)
  (.cons (.ife (.ex (.cmp .eq (.bt .len false (.cons (.idx (.var 0) (.cst (.int 0))) .nil)) (.cst (.int 0)))) (.cons (.ret (.cst (.int 0)))
  .nil) .nil)
  (.cons (.ife (.ex (.cmp .ge (.idx (.var 0) (.cst (.int 1))) (.bt .len false (.cons (.idx (.var 0) (.cst (.int 0))) .nil)))) (.cons (.ret (.bin .mod (.bt .int false (.cons (.call 2 false (.cons (.idx (.var 0) (.cst (.int 4))) (.cons (.idx (.var 0) (.cst (.int 3))) .nil))) .nil)) (.var 1)))
  .nil) .nil)
  (.cons (.asg 2 (.idx (.idx (.var 0) (.cst (.int 0))) (.idx (.var 0) (.cst (.int 1)))))
  (.cons (.asgI (.var 0) (.cst (.int 4)) (.bin .mod (.bt .int false (.cons (.bin .add (.bin .mul (.idx (.var 0) (.cst (.int 4))) (.cst (.int 31))) (.var 2)) .nil)) (.cst (.int 1000003))))
  (.cons (.ife (.ex (.cmp .ge (.var 2) (.bin .pow (.cst (.int 10)) (.cst (.int 18))))) (.cons (.asgI (.var 0) (.cst (.int 1)) (.bin .add (.idx (.var 0) (.cst (.int 1))) (.cst (.int 1))))
  (.cons (.asgI (.var 0) (.cst (.int 2)) (.bin .fdiv (.var 2) (.var 1)))
  (.cons (.ret (.bin .mod (.bt .int false (.cons (.var 2) .nil)) (.var 1)))
  .nil))) .nil)
  (.cons (.ife (.ex (.cmp .eq (.bin .mod (.bt .int false (.cons (.idx (.var 0) (.cst (.int 3))) .nil)) (.cst (.int 3))) (.cst (.int 0)))) (.cons (.asgI (.var 0) (.cst (.int 1)) (.bin .add (.idx (.var 0) (.cst (.int 1))) (.cst (.int 1))))
  .nil) .nil)
  (.cons (.ret (.bin .mod (.bt .int false (.cons (.call 2 false (.cons (.var 2) (.cons (.idx (.var 0) (.cst (.int 3))) .nil))) .nil)) (.var 1)))
  .nil)))))))))
def b4 : FW.Ss := (.cons (.ife (.ex (.cmp .eq (.call 3 false (.cons (.var 0) (.cons (.cst (.int 8)) .nil))) (.cst (.int 7)))) (.cons (.ret (.call 3 true (.cons (.var 0) (.cons (.bin .add (.var 2) (.cst (.int 1))) .nil))))
  .nil) .nil)
  (.cons (.ret (.call 3 true (.cons (.var 0) (.cons (.bin .add (.var 1) (.cst (.int 1))) .nil))))
  .nil))
def b5 : FW.Ss := (.cons (.asg 1 (.cst (.str " !\"#$&'()*+,-./0123456789:;<=>?@ABCDEFGHIJKLMNOPQRSTUVWXYZ[\\]^_`")))
  (.cons (.asg 1 (.bin .add (.var 1) (.cst (.str "abcdefghijklmnopqrstuvwxyz{|}~\n\t"))))
  (.cons (.asg 2 (.cst (.str "`{-_ A.0Z~\n")))
  (.cons (.ife (.ex (.cmp .eq (.call 3 false (.cons (.var 0) (.cons (.cst (.int 3)) .nil))) (.cst (.int 1)))) (.cons (.ret (.idx (.var 2) (.call 3 false (.cons (.var 0) (.cons (.cst (.int 11)) .nil)))))
  .nil) .nil)
  (.cons (.ret (.idx (.var 1) (.call 3 false (.cons (.var 0) (.cons (.cst (.int 96)) .nil)))))
  .nil)))))
def b6 : FW.Ss := (.cons (.asg 1 (.cst (.str "abcdefghijklmnopqrstuvwxyz")))
  (.cons (.asg 2 (.call 4 false (.cons (.var 0) (.cons (.cst (.int 15)) (.cons (.cst (.int 200)) .nil)))))
  (.cons (.ife (.ex (.cmp .eq (.call 3 false (.cons (.var 0) (.cons (.cst (.int 3)) .nil))) (.cst (.int 1)))) (.cons (.asg 2 (.idx (.lst false (.cons (.cst (.int 0)) (.cons (.cst (.int 1)) (.cons (.cst (.int 2)) (.cons (.cst (.int 11)) (.cons (.cst (.int 12)) (.cons (.cst (.int 13)) .nil))))))) (.call 3 false (.cons (.var 0) (.cons (.cst (.int 6)) .nil)))))
  .nil) .nil)
  (.cons (.asg 3 (.call 3 false (.cons (.var 0) (.cons (.cst (.int 5)) .nil))))
  (.cons (.asg 4 (.idx (.lst false (.cons (.cst (.int 0)) (.cons (.bin .sub (.var 2) (.cst (.int 1))) (.cons (.call 3 false (.cons (.var 0) (.cons (.bt .max false (.cons (.cst (.int 1)) (.cons (.var 2) .nil))) .nil))) .nil)))) (.call 3 false (.cons (.var 0) (.cons (.cst (.int 3)) .nil)))))
  (.cons (.asg 5 (.cst (.str "")))
  (.cons (.for (.nm 6) (.rng1 (.var 2)) (.cons (.asg 7 (.idx (.var 1) (.call 3 false (.cons (.var 0) (.cons (.cst (.int 26)) .nil)))))
  (.cons (.ife (.and (.or (.ex (.cmp .eq (.var 3) (.cst (.int 1)))) (.ex (.cmp .eq (.var 3) (.cst (.int 2))))) (.ex (.cmp .eq (.var 6) (.var 4)))) (.cons (.asg 7 (.call 5 false (.cons (.var 0) .nil)))
  .nil) .nil)
  (.cons (.ife (.and (.ex (.cmp .gt (.var 3) (.cst (.int 2)))) (.ex (.cmp .eq (.call 3 false (.cons (.var 0) (.cons (.cst (.int 4)) .nil))) (.cst (.int 3))))) (.cons (.asg 7 (.call 5 false (.cons (.var 0) .nil)))
  .nil) .nil)
  (.cons (.asg 5 (.bin .add (.var 5) (.var 7)))
  .nil)))))
  (.cons (.ret (.var 5))
  .nil))))))))
def b7 : FW.Ss := (.cons (.asg 1 (.comp false [2] (.nm 2) (.val (.var 0)) (.cons (.ex (.chn .le .le (.cst (.str "a")) (.var 2) (.cst (.str "z")))) .nil) (.var 2)))
  (.cons (.ret (.and (.chn .le .le (.cst (.int 1)) (.bt .len false (.cons (.var 0) .nil)) (.cst (.int 12))) (.cmp .eq (.bt .len false (.cons (.var 1) .nil)) (.bt .len false (.cons (.var 0) .nil)))))
  .nil))
def b8 : FW.Ss := (.cons (.asg 1 (.stat 5 0 false (.cons (.var 0) .nil)))
  (.cons (.ret (.and (.isi (.var 1) [.ty .bl]) (.cmp .eq (.var 1) (.call 7 false (.cons (.var 0) .nil)))))
  .nil))
def b9 : FW.Ss := (.cons (.asg 1 (.call 1 true (.cons (.var 0) .nil)))
  (.cons (.asg 2 (.call 6 false (.cons (.var 1) .nil)))
  (.cons (.asg 3 (.call 6 false (.cons (.var 1) .nil)))
  (.cons (.for (.nm 4) (.val (.lst false (.cons (.var 2) (.cons (.var 3) (.cons (.bin .add (.var 2) (.cst (.str "a"))) (.cons (.slc false (.var 2) (.cst (.int 1)) (.cst .non)) (.cons (.slc false (.var 2) (.cst .non) (.neg (.cst (.int 1)))) (.cons (.upper (.var 2)) (.cons (.var 3) (.cons (.var 2) .nil)))))))))) (.cons (.ife (.not (.ex (.call 8 false (.cons (.var 4) .nil)))) (.cons (.ret (.cst (.bl false)))
  .nil) .nil)
  .nil))
  (.cons (.ret (.cst (.bl true)))
  .nil)))))
/-- Kinds.is_name -/
def f0 : FW.FnI := ⟨1, 2, b0⟩
/-- _law_pool -/
def f1 : FW.FnI := ⟨1, 2, b1⟩
/-- _law_mixed -/
def f2 : FW.FnI := ⟨2, 5, b2⟩
/-- _law_draw -/
def f3 : FW.FnI := ⟨2, 4, b3⟩
/-- _law_some -/
def f4 : FW.FnI := ⟨3, 3, b4⟩
/-- _law_sign -/
def f5 : FW.FnI := ⟨1, 3, b5⟩
/-- _law_text -/
def f6 : FW.FnI := ⟨1, 8, b6⟩
/-- _law_due -/
def f7 : FW.FnI := ⟨1, 3, b7⟩
/-- _law_tells -/
def f8 : FW.FnI := ⟨1, 2, b8⟩
/-- law -/
def f9 : FW.FnI := ⟨1, 5, b9⟩
def Pg : FW.Prg := ⟨[f0, f1, f2, f3, f4, f5, f6, f7, f8, f9], fun c m => (g.sm.lookup (c, m)).map .stat, fun _ => none, fun _ _ => none, fun _ => none, 0, 1000000⟩
theorem ok0 : FW.DefOk g 40 f0 q0 := ⟨rfl, rfl, by kernel_rfl, rfl, rfl, by kernel_rfl, fun _ _ _ _ _ _ us hl => match us, hl with | [_], _ => rfl⟩
theorem ok1 : FW.DefOk g 40 f1 q1 := ⟨rfl, rfl, by kernel_rfl, rfl, rfl, by kernel_rfl, fun _ _ _ _ _ _ us hl => match us, hl with | [_], _ => rfl⟩
theorem ok2 : FW.DefOk g 40 f2 q2 := ⟨rfl, rfl, by kernel_rfl, rfl, rfl, by kernel_rfl, fun _ _ _ _ _ _ us hl => match us, hl with | [_, _], _ => rfl⟩
theorem ok3 : FW.DefOk g 40 f3 q3 := ⟨rfl, rfl, by kernel_rfl, rfl, rfl, by kernel_rfl, fun _ _ _ _ _ _ us hl => match us, hl with | [_, _], _ => rfl⟩
theorem ok4 : FW.DefOk g 40 f4 q4 := ⟨rfl, rfl, by kernel_rfl, rfl, rfl, by kernel_rfl, fun _ _ _ _ _ _ us hl => match us, hl with | [_, _, _], _ => rfl⟩
theorem ok5 : FW.DefOk g 40 f5 q5 := ⟨rfl, rfl, by kernel_rfl, rfl, rfl, by kernel_rfl, fun _ _ _ _ _ _ us hl => match us, hl with | [_], _ => rfl⟩
theorem ok6 : FW.DefOk g 40 f6 q6 := ⟨rfl, rfl, by kernel_rfl, rfl, rfl, by kernel_rfl, fun _ _ _ _ _ _ us hl => match us, hl with | [_], _ => rfl⟩
theorem ok7 : FW.DefOk g 40 f7 q7 := ⟨rfl, rfl, by kernel_rfl, rfl, rfl, by kernel_rfl, fun _ _ _ _ _ _ us hl => match us, hl with | [_], _ => rfl⟩
theorem ok8 : FW.DefOk g 40 f8 q8 := ⟨rfl, rfl, by kernel_rfl, rfl, rfl, by kernel_rfl, fun _ _ _ _ _ _ us hl => match us, hl with | [_], _ => rfl⟩
theorem ok9 : FW.DefOk g 40 f9 q9 := ⟨rfl, rfl, by kernel_rfl, rfl, rfl, by kernel_rfl, fun _ _ _ _ _ _ us hl => match us, hl with | [_], _ => rfl⟩
theorem hD : ∀ (i : Nat) (q : FW.DefI), ds[i]? = some q → ∃ f, Pg.fns[i]? = some f ∧ FW.DefOk g 40 f q
  | 0, _, rfl => ⟨f0, rfl, ok0⟩
  | 1, _, rfl => ⟨f1, rfl, ok1⟩
  | 2, _, rfl => ⟨f2, rfl, ok2⟩
  | 3, _, rfl => ⟨f3, rfl, ok3⟩
  | 4, _, rfl => ⟨f4, rfl, ok4⟩
  | 5, _, rfl => ⟨f5, rfl, ok5⟩
  | 6, _, rfl => ⟨f6, rfl, ok6⟩
  | 7, _, rfl => ⟨f7, rfl, ok7⟩
  | 8, _, rfl => ⟨f8, rfl, ok8⟩
  | 9, _, rfl => ⟨f9, rfl, ok9⟩
  | n + 10, _, h => by simp [ds] at h
abbrev R : PySem.W.OpenRow := PySem.W.OpenLaw.row PySem.Challenge.rw_rivalspots_k01_names
def names : List PySem.Str := (["_wall", "SpotError", "BadName", "BadNumber", "DoubleName", "BadKind", "LETTERS", "LONGEST", "Kinds", "_law_pool", "_law_mixed", "_law_draw", "_law_some", "_law_sign", "_law_text", "_law_due", "_law_tells"] : List PySem.Str)
abbrev hk : PySem.W.Hook := FW.hookF 6 (FW.exF cls g ds) (ds.map (·.d))
def ob (s : PySem.W.SharedT) : He.AlD := FW.obsFG 6 (FW.exF cls g ds) (ds.map (·.d)) (HandSHeadRun.getT s)
theorem ob_eq (s : PySem.W.SharedT) : ob s = hk.obs s.abs := FW.obsFG_eq (HandSHeadRun.getT_eq s)
theorem run (w : World) : HandSHeadRun.RunEq R (PySem.W.view R.prog [20]) hk ob 20000 names w := by
  intro os
  kernel_rfl
/-- the law, its plain form given -/
theorem ends {k : Nat} (hr : Room k callerA) (law : ∀ ns : List Int, ns.length ≤ 63 → (∀ z ∈ ns, Builtin.Int.intBits z ≤ 1048576) → ∃ C', FW.callN Pg k 9 [.p (.scr (ns.map FW.P.int))] [] = .ok (.p (.bl true)) C') : PySem.Challenge.rw_rivalspots_k01_names.Holds := by
  open PySem PySem.W PySem.Calls PyProof.Rows in
  w_on; o_law
  refine HandSHeadRun.head_any (r := R) (q := view R.prog [20]) (H := hk) (ob := ob) (M := 20000) (loose := names) (d := HandSHeadRun.topDef R.prog 20) (kwd := []) ob_eq (by kernel_rfl) (fun s => by kernel_rfl) run (by kernel_rfl) (by kernel_rfl) (by kernel_rfl) (by rfl) (by first | assumption | decide +kernel) (by decide +kernel) ⟨rfl, rfl, rfl, rfl, rfl, by decide +kernel⟩ ?hw ?hc
  case hw => w_witness2
  case hc => exact FW.law_end (l := PySem.Challenge.rw_rivalspots_k01_names) (n := 63) (x := "_law_script") (L := 9) (qL := q9) rfl (by decide) (by kernel_rfl) hr hD rfl (fun cn mn f h => by show (g.sm.lookup (cn, mn)).map FW.MK.stat = _; rw [h]; rfl) (fun _ _ => rfl) rfl rfl (by kernel_rfl) law
end Lk01

set_option maxRecDepth 100000
set_option maxHeartbeats 4000000
/-! Pk01: the plain law of k01. -/
namespace Lk01
open PySem FW
theorem mm : Pg.fns[2]? = some ⟨2, 5, bMixed⟩ := rfl
theorem dd : Pg.fns[3]? = some ⟨2, 4, bDraw 2⟩ := rfl
abbrev dr (n : Nat) {C : Cells} {j : Nat} (h : Ps C j) {m : Int} (h0 : 0 < m) (h9 : m < 9000) := draw_ps mm dd n h h0 h9
theorem pool_ok (n : Nat) (ns : List Int) (hn : ns.length ≤ 63) (C : Cells) : callN Pg (n + 1) 1 [.p (.scr (ns.map .int))] C = .ok (.c C.length) (C ++ [⟨.mu, pool ns 0 0 0 ns.length⟩]) := by
  rw [call_eq (f := f1) rfl rfl]
  have hc : ∀ G : Gm, eval G (.comp false [1] (.nm 1) (.val (.var 0)) .nil (.bt .int false (.cons (.var 1) .nil))) [some (.p (.scr (ns.map .int))), none] C = .ok (.p (.lst (ns.map .int))) C := fun G => by
    have := comp_ok (G := G) (own := [1]) (tg := .nm 1) (it := .val (.var 0)) (cs := .nil) (e := .bt .int false (.cons (.var 1) .nil)) (σ := [some (.p (.scr (ns.map .int))), none]) (C := C) (xs := ns.map P.int) (f := fun x => some x)
      (.inr ⟨_, rfl⟩) (fun x hx C => by
        obtain ⟨i, _, rfl⟩ := List.mem_map.mp hx
        rfl) (by have := big_is; simp; omega)
    simpa using this
  simp [f1, b1, startE, hc, pool, big_is]
theorem some_ok (n : Nat) {C : Cells} {j : Nat} (h : Ps C j) {u v : Int} (hu : 0 ≤ u) (hv : 0 ≤ v) (hu9 : u < 8000) (hv9 : v < 8000) : ∃ r C', Ps C' j ∧ C'.length = C.length ∧ 0 ≤ r ∧ r ≤ u + v ∧ callN Pg (n + 3) 4 [.c j, .p (.int u), .p (.int v)] C = .ok (.p (.int r)) C' := by
  obtain ⟨r1, C1, p1, l1, g1, s1, e1⟩ := dr n h (m := 8) (by decide) (by decide)
  rw [call_eq (f := f4) rfl rfl]
  by_cases q : r1 = 7
  · obtain ⟨r2, C2, p2, l2, g2, s2, e2⟩ := dr n p1 (m := v + 1) (by omega) (by omega)
    exact ⟨r2, C2, p2, l2.trans l1, g2, by omega, by simp [f4, b4, startE, e1, l1, q, e2, l2]⟩
  · obtain ⟨r2, C2, p2, l2, g2, s2, e2⟩ := dr n p1 (m := u + 1) (by omega) (by omega)
    exact ⟨r2, C2, p2, l2.trans l1, g2, by omega, by simp [f4, b4, startE, e1, l1, q, e2, l2]⟩
/-- a sign of a text -/
theorem ix_str {s : Str} {i : Int} (h0 : 0 ≤ i) (h1 : i < s.length) (hb : s.length ≤ big) : ∃ c, ixP (.str s) (.int i) = some (.str ⟨#[c]⟩) := by
  obtain ⟨k, rfl⟩ := Int.eq_ofNat_of_zero_le h0
  have hk : k < s.cps.toList.length := by
    have : s.length = s.cps.toList.length := by simp [Str.length]
    omega
  refine ⟨s.cps.toList[k], ?_⟩
  show (if s.length ≤ big then (L2.atI s.cps.toList (k : Int)).map fun c => P.str ⟨#[c]⟩ else none) = _
  rw [if_pos hb]
  unfold L2.atI L2.ixN
  rw [if_pos (by omega), if_pos (by exact_mod_cast hk)]
  simp
theorem sign_ok (n : Nat) {C : Cells} {j : Nat} (h : Ps C j) : ∃ c C', Ps C' j ∧ C'.length = C.length ∧ callN Pg (n + 3) 5 [.c j] C = .ok (.p (.str ⟨#[c]⟩)) C' := by
  obtain ⟨r1, C1, p1, l1, g1, s1, e1⟩ := dr n h (m := 3) (by decide) (by decide)
  have ha : ∀ s : Str, s = " !\"#$&'()*+,-./0123456789:;<=>?@ABCDEFGHIJKLMNOPQRSTUVWXYZ[\\]^_`" → s.length + ("abcdefghijklmnopqrstuvwxyz{|}~\n\t" : Str).length ≤ big := fun s e => by subst e; decide +kernel
  have hb := b_addS (ha _ rfl)
  rw [call_eq (f := f5) rfl rfl]
  by_cases q : r1 = 1
  · obtain ⟨r2, C2, p2, l2, g2, s2, e2⟩ := dr n p1 (m := 11) (by decide) (by decide)
    obtain ⟨c, hc⟩ := ix_str (s := "`{-_ A.0Z~\n") g2 (by
      have : ("`{-_ A.0Z~\n" : Str).length = 11 := by decide +kernel
      omega) (by decide +kernel)
    exact ⟨c, C2, p2, l2.trans l1, by simp [f5, b5, startE, hb, e1, l1, q, e2, l2, hc]⟩
  · obtain ⟨r2, C2, p2, l2, g2, s2, e2⟩ := dr n p1 (m := 96) (by decide) (by decide)
    have hl : ((" !\"#$&'()*+,-./0123456789:;<=>?@ABCDEFGHIJKLMNOPQRSTUVWXYZ[\\]^_`" : Str) ++ ("abcdefghijklmnopqrstuvwxyz{|}~\n\t" : Str)).length = 96 := by decide +kernel
    obtain ⟨c, hc⟩ := ix_str g2 (by rw [hl]; exact s2) (by rw [hl]; decide)
    exact ⟨c, C2, p2, l2.trans l1, by simp [f5, b5, startE, hb, e1, l1, q, e2, l2, hc]⟩
theorem len_app (s t : Str) : (s ++ t).length = s.length + t.length := by
  show (s.cps ++ t.cps).size = _
  simp [Str.length]
abbrev lets : Str := "abcdefghijklmnopqrstuvwxyz"
abbrev tBody : Ss := (.cons (.asg 7 (.idx (.var 1) (.call 3 false (.cons (.var 0) (.cons (.cst (.int 26)) .nil)))))
  (.cons (.ife (.and (.or (.ex (.cmp .eq (.var 3) (.cst (.int 1)))) (.ex (.cmp .eq (.var 3) (.cst (.int 2))))) (.ex (.cmp .eq (.var 6) (.var 4)))) (.cons (.asg 7 (.call 5 false (.cons (.var 0) .nil)))
  .nil) .nil)
  (.cons (.ife (.and (.ex (.cmp .gt (.var 3) (.cst (.int 2)))) (.ex (.cmp .eq (.call 3 false (.cons (.var 0) (.cons (.cst (.int 4)) .nil))) (.cst (.int 3))))) (.cons (.asg 7 (.call 5 false (.cons (.var 0) .nil)))
  .nil) .nil)
  (.cons (.asg 5 (.bin .add (.var 5) (.var 7)))
  .nil))))
theorem turn_ok (n : Nat) {C : Cells} {j : Nat} (h : Ps C j) (z way odd at_ : Int) (s : Str) (hs : s.length ≤ 10000) (o7 : Option FW.D) : ∃ c C', Ps C' j ∧ C'.length = C.length ∧
    execs (Pg.gm (callN Pg (n + 3))) tBody [some (.c j), some (.p (.str lets)), some (.p (.int z)), some (.p (.int way)), some (.p (.int odd)), some (.p (.str s)), some (.p (.int at_)), o7] C =
      .nx [some (.c j), some (.p (.str lets)), some (.p (.int z)), some (.p (.int way)), some (.p (.int odd)), some (.p (.str (s ++ ⟨#[c]⟩))), some (.p (.int at_)), some (.p (.str ⟨#[c]⟩))] C' := by
  obtain ⟨r1, C1, p1, l1, g1, s1, e1⟩ := dr (n + 1) h (m := 26) (by decide) (by decide)
  obtain ⟨c1, hc1⟩ := ix_str (s := lets) g1 (by
    have : lets.length = 26 := by decide +kernel
    omega) (by decide +kernel)
  have ad : ∀ c : Nat, binP .add (.str s) (.str ⟨#[c]⟩) = some (.str (s ++ ⟨#[c]⟩)) := fun c => b_addS (by
    have : (⟨#[c]⟩ : Str).length = 1 := rfl
    have := big_is
    omega)
  by_cases w : 2 < way
  · have w1 : ¬ way = 1 := by omega
    have w2 : ¬ way = 2 := by omega
    obtain ⟨r2, C2, p2, l2, g2, s2, e2⟩ := dr (n + 1) p1 (m := 4) (by decide) (by decide)
    by_cases q : r2 = 3
    · obtain ⟨c, C3, p3, l3, e3⟩ := sign_ok n p2
      exact ⟨c, C3, p3, by omega, by simp [e1, l1, hc1, w, w1, w2, e2, l2, q, e3, l3, ad]⟩
    · exact ⟨c1, C2, p2, by omega, by simp [e1, l1, hc1, w, w1, w2, e2, l2, q, ad]⟩
  · by_cases v : (way = 1 ∨ way = 2) ∧ at_ = odd
    · obtain ⟨v1, rfl⟩ := v
      obtain ⟨c, C3, p3, l3, e3⟩ := sign_ok n p1
      rcases v1 with rfl | rfl
      · exact ⟨c, C3, p3, by omega, by simp [e1, l1, hc1, e3, l3, ad]⟩
      · exact ⟨c, C3, p3, by omega, by simp [e1, l1, hc1, e3, l3, ad]⟩
    · refine ⟨c1, C1, p1, l1, ?_⟩
      by_cases a1 : way = 1
      · have : ¬ at_ = odd := fun e => v ⟨.inl a1, e⟩
        simp [e1, l1, hc1, w, a1, this, ad]
      · by_cases a2 : way = 2
        · have : ¬ at_ = odd := fun e => v ⟨.inr a2, e⟩
          simp [e1, l1, hc1, w, a1, a2, this, ad]
        · simp [e1, l1, hc1, w, a1, a2, ad]
theorem loop_ok (n : Nat) {C : Cells} {j : Nat} (h : Ps C j) (z way odd : Int) (h0 : 0 ≤ z) (h9 : z ≤ 215) (o6 o7 : Option FW.D) : ∃ s C' o6' o7', Ps C' j ∧ C'.length = C.length ∧ s.length ≤ 215 ∧
    exec (Pg.gm (callN Pg (n + 3))) (.for (.nm 6) (.rng1 (.var 2)) tBody) [some (.c j), some (.p (.str lets)), some (.p (.int z)), some (.p (.int way)), some (.p (.int odd)), some (.p (.str "")), o6, o7] C =
      .nx [some (.c j), some (.p (.str lets)), some (.p (.int z)), some (.p (.int way)), some (.p (.int odd)), some (.p (.str s)), o6', o7'] C' := by
  have hb : ltB z = true := by unfold ltB; simp; omega
  have hlen : (rngU 0 z).length = z.toNat := by simp [rngU]
  obtain ⟨σ', C', ⟨s, a, b, hs, hp, hl, rfl⟩, e⟩ := forL_nx (tg := .nm 6) (body := execs (Pg.gm (callN Pg (n + 3))) tBody)
    (I := fun k σ C1 => ∃ s a b, s.length = k ∧ Ps C1 j ∧ C1.length = C.length ∧ σ = [some (.c j), some (.p (.str lets)), some (.p (.int z)), some (.p (.int way)), some (.p (.int odd)), some (.p (.str s)), a, b])
    (rngU 0 z) 0 (fun i x σ C1 hx ⟨s, a, b, hs, hp, hl, hσ⟩ => by
      subst hσ
      have hi : i < z.toNat := by
        have := (List.getElem?_eq_some_iff.mp hx).1
        omega
      obtain ⟨y, rfl⟩ : ∃ y, x = .int y := by
        have := (List.getElem?_eq_some_iff.mp hx).2
        simp [rngU] at this
        exact ⟨_, this.symm⟩
      obtain ⟨c, C2, p2, l2, e2⟩ := turn_ok n hp z way odd y s (by omega) b
      exact ⟨_, _, C2, rfl, e2, s ++ ⟨#[c]⟩, _, _, by rw [len_app, hs]; rfl, p2, by omega, rfl⟩) _ C ⟨"", o6, o7, rfl, h, rfl, rfl⟩
  refine ⟨s, C', a, b, hp, hl, by omega, ?_⟩
  rw [x_for]
  simp [hb, e]
theorem list6 {r : Int} (h0 : 0 ≤ r) (h1 : r < 6) : ∃ z : Int, 0 ≤ z ∧ z ≤ 13 ∧ L2.atI [P.int 0, .int 1, .int 2, .int 11, .int 12, .int 13] r = some (.int z) := by
  have : r = 0 ∨ r = 1 ∨ r = 2 ∨ r = 3 ∨ r = 4 ∨ r = 5 := by omega
  rcases this with rfl | rfl | rfl | rfl | rfl | rfl
  · exact ⟨0, by decide, by decide, rfl⟩
  · exact ⟨1, by decide, by decide, rfl⟩
  · exact ⟨2, by decide, by decide, rfl⟩
  · exact ⟨11, by decide, by decide, rfl⟩
  · exact ⟨12, by decide, by decide, rfl⟩
  · exact ⟨13, by decide, by decide, rfl⟩
theorem list3 {r a b : Int} (h0 : 0 ≤ r) (h1 : r < 3) : ∃ z : Int, L2.atI [P.int 0, .int a, .int b] r = some (.int z) := by
  have : r = 0 ∨ r = 1 ∨ r = 2 := by omega
  rcases this with rfl | rfl | rfl
  · exact ⟨_, rfl⟩
  · exact ⟨_, rfl⟩
  · exact ⟨_, rfl⟩
theorem text_ok (n : Nat) {C : Cells} {j : Nat} (h : Ps C j) : ∃ s C', Ps C' j ∧ C'.length = C.length ∧ s.length ≤ 215 ∧ callN Pg (n + 4) 6 [.c j] C = .ok (.p (.str s)) C' := by
  obtain ⟨z0, C0, p0, l0, g0, s0, e0⟩ := some_ok n h (u := 15) (v := 200) (by decide) (by decide) (by decide) (by decide)
  obtain ⟨r1, C1, p1, l1, g1, s1, e1⟩ := dr (n + 1) p0 (m := 3) (by decide) (by decide)
  rw [call_eq (f := f6) rfl rfl]
  -- the size
  have fin : ∀ (z : Int) (C2 : Cells), 0 ≤ z → z ≤ 215 → Ps C2 j → C2.length = C.length → ∃ s C', Ps C' j ∧ C'.length = C.length ∧ s.length ≤ 215 ∧ ∃ way odd Cw Co o6 o7, callN Pg (n + 3) 3 [.c j, .p (.int 5)] C2 = .ok (.p (.int way)) Cw ∧ Cw.length = C.length ∧
      (∃ r3 C3 r4 C4, callN Pg (n + 3) 3 [.c j, .p (.int (if z > 1 then z else 1))] Cw = .ok (.p (.int r3)) C3 ∧ C3.length = C.length ∧ callN Pg (n + 3) 3 [.c j, .p (.int 3)] C3 = .ok (.p (.int r4)) C4 ∧ C4 = Co ∧ L2.atI [P.int 0, .int (z - 1), .int r3] r4 = some (.int odd)) ∧ Co.length = C.length ∧
      exec (Pg.gm (callN Pg (n + 3))) (.for (.nm 6) (.rng1 (.var 2)) tBody) [some (.c j), some (.p (.str lets)), some (.p (.int z)), some (.p (.int way)), some (.p (.int odd)), some (.p (.str "")), none, none] Co =
      .nx [some (.c j), some (.p (.str lets)), some (.p (.int z)), some (.p (.int way)), some (.p (.int odd)), some (.p (.str s)), o6, o7] C' := fun z C2 h0 h9 p2 l2 => by
    obtain ⟨way, Cw, pw, lw, gw, sw, ew⟩ := dr (n + 1) p2 (m := 5) (by decide) (by decide)
    obtain ⟨r3, C3, p3, l3, g3, s3, e3⟩ := dr (n + 1) pw (m := if z > 1 then z else 1) (by split <;> omega) (by split <;> omega)
    obtain ⟨r4, C4, p4, l4, g4, s4, e4⟩ := dr (n + 1) p3 (m := 3) (by decide) (by decide)
    obtain ⟨odd, ho⟩ := list3 (a := z - 1) (b := r3) g4 s4
    obtain ⟨s, C', o6, o7, pp, ll, ls, e5⟩ := loop_ok n p4 z way odd h0 h9 none none
    exact ⟨s, C', pp, by omega, ls, way, odd, Cw, C4, o6, o7, ew, by omega, ⟨r3, C3, r4, C4, e3, by omega, e4, rfl, ho⟩, by omega, e5⟩
  by_cases q : r1 = 1
  · obtain ⟨r2, C2, p2, l2, g2, s2, e2⟩ := dr (n + 1) p1 (m := 6) (by decide) (by decide)
    obtain ⟨z, z0', z1', hz⟩ := list6 g2 s2
    obtain ⟨s, C', pp, ll, ls, way, odd, Cw, Co, o6, o7, ew, lw, ⟨r3, C3, r4, C4, e3, l3, e4, rfl, ho⟩, lo, e5⟩ := fin z C2 z0' (by omega) p2 (by omega)
    refine ⟨s, C', pp, ll, ls, ?_⟩
    simp [f6, b6, startE, e0, l0, e1, l1, q, e2, l2, hz, big_is, ew, lw, e3, l3, e4, ho, lo]
    rw [e5]
    rfl
  · obtain ⟨s, C', pp, ll, ls, way, odd, Cw, Co, o6, o7, ew, lw, ⟨r3, C3, r4, C4, e3, l3, e4, rfl, ho⟩, lo, e5⟩ := fin z0 C1 g0 (by omega) p1 (by omega)
    refine ⟨s, C', pp, ll, ls, ?_⟩
    simp [f6, b6, startE, e0, l0, e1, l1, q, big_is, ew, lw, e3, l3, e4, ho, lo]
    rw [e5]
    rfl
/-! ### names -/
def okC (c : Nat) : Bool := decide (97 ≤ c) && decide (c ≤ 122)
theorem in_lets (c : Nat) : cmpP .nin (.str ⟨#[c]⟩) (.str lets) = some (!okC c) := by
  have e : lets.cps.toList = [97, 98, 99, 100, 101, 102, 103, 104, 105, 106, 107, 108, 109, 110, 111, 112, 113, 114, 115, 116, 117, 118, 119, 120, 121, 122] := by decide +kernel
  show (if (⟨#[c]⟩ : Str).length = 1 then some (decide ((⟨#[c]⟩ : Str).cps.getD 0 0 ∈ lets.cps.toList)) else none).map (fun b => !b) = _
  show some (!decide (c ∈ lets.cps.toList)) = _
  rw [e]
  congr 2
  unfold okC
  rw [← Bool.decide_and]
  apply decide_eq_decide.mpr
  simp
  omega
theorem le_a (c : Nat) : cmpP .le (.str "a") (.str ⟨#[c]⟩) = some (decide (97 ≤ c)) := by
  have e : ("a" : Str).cps.toList = [97] := by decide +kernel
  show some (!decide ((⟨#[c]⟩ : Str).cps.toList < ("a" : Str).cps.toList)) = _
  rw [e]
  congr 1
  rw [← decide_not]
  apply decide_eq_decide.mpr
  show ¬ [c] < [97] ↔ _
  rw [List.cons_lt_cons_iff]
  simp
theorem le_z (c : Nat) : cmpP .le (.str ⟨#[c]⟩) (.str "z") = some (decide (c ≤ 122)) := by
  have e : ("z" : Str).cps.toList = [122] := by decide +kernel
  show some (!decide (("z" : Str).cps.toList < (⟨#[c]⟩ : Str).cps.toList)) = _
  rw [e]
  congr 1
  rw [← decide_not]
  apply decide_eq_decide.mpr
  show ¬ [122] < [c] ↔ _
  rw [List.cons_lt_cons_iff]
  simp
abbrev nBody : Ss := (.cons (.ife (.ex (.cmp .nin (.var 1) (.cst (.str "abcdefghijklmnopqrstuvwxyz")))) (.cons (.ret (.cst (.bl false)))
  .nil) .nil)
  .nil)
theorem names_loop (G : Gm) (s : Str) (C : Cells) : ∀ (cs : List Nat) (o : Option FW.D), ∃ σ', forL (.nm 1) (execs G nBody) (cs.map fun c => P.str ⟨#[c]⟩) [some (.p (.str s)), o] C = if cs.all okC then .nx σ' C else .rt (.p (.bl false)) C
  | [], o => ⟨_, rfl⟩
  | c :: cs, o => by
    obtain ⟨σ', e⟩ := names_loop G s C cs (some (.p (.str ⟨#[c]⟩)))
    refine ⟨σ', ?_⟩
    show (match execs G nBody [some (.p (.str s)), some (.p (.str ⟨#[c]⟩))] C with
      | .nx σ2 C2 => forL (.nm 1) (execs G nBody) (cs.map fun c => P.str ⟨#[c]⟩) σ2 C2
      | .ct σ2 C2 => forL (.nm 1) (execs G nBody) (cs.map fun c => P.str ⟨#[c]⟩) σ2 C2
      | .bk σ2 C2 => .nx σ2 C2
      | o => o) = _
    cases h : okC c with
    | true =>
      have : execs G nBody [some (.p (.str s)), some (.p (.str ⟨#[c]⟩))] C = .nx [some (.p (.str s)), some (.p (.str ⟨#[c]⟩))] C := by simp [in_lets, h]
      rw [this]
      simp [h, e]
    | false =>
      have : execs G nBody [some (.p (.str s)), some (.p (.str ⟨#[c]⟩))] C = .rt (.p (.bl false)) C := by simp [in_lets, h]
      rw [this]
      simp [h]
def isNm (s : Str) : Bool := decide (1 ≤ s.length) && decide (s.length ≤ 12) && s.cps.toList.all okC
theorem name_ok (n : Nat) (s : Str) (hs : s.length ≤ big) (C : Cells) : callN Pg (n + 1) 0 [.p (.str s)] C = .ok (.p (.bl (isNm s))) C := by
  rw [call_eq (f := f0) rfl rfl]
  obtain ⟨σ', e⟩ := names_loop (Pg.gm (callN Pg n)) s C s.cps.toList none
  have e : exec (Pg.gm (callN Pg n)) (.for (.nm 1) (.val (.var 0)) nBody) [some (.p (.str s)), none] C = if s.cps.toList.all okC then .nx σ' C else .rt (.p (.bl false)) C := by
    rw [x_for]
    simp [itemsL, e]
  unfold isNm
  by_cases h1 : 1 ≤ s.length
  · have i1 : (1 : Int) ≤ s.length := by omega
    by_cases h2 : s.length ≤ 12
    · have i2 : (s.length : Int) ≤ 12 := by omega
      cases h3 : s.cps.toList.all okC with
      | true =>
        rw [h3] at e
        simp [f0, b0, startE, len_str hs, h1, h2, i1, i2, e]
      | false =>
        rw [h3] at e
        simp [f0, b0, startE, len_str hs, h1, h2, i1, i2, e]
    · have : ¬ (s.length : Int) ≤ 12 := by omega
      simp [f0, b0, startE, len_str hs, h1, h2, i1, this]
  · have : ¬ (1 : Int) ≤ s.length := by omega
    simp [f0, b0, startE, len_str hs, h1, this]
def goodP : P → Option P
  | .str z => if okC (z.cps.getD 0 0) then some (.str z) else none
  | _ => none
theorem good_c (c : Nat) : goodP (.str ⟨#[c]⟩) = if okC c then some (.str ⟨#[c]⟩) else none := rfl
theorem good_len : ∀ l : List Nat, ((l.map fun c => P.str ⟨#[c]⟩).filterMap goodP).length = (l.filter okC).length
  | [] => rfl
  | c :: l => by
    have ih := good_len l
    rw [List.map_cons, List.filterMap_cons, good_c, List.filter_cons]
    cases okC c
    · exact ih
    · simp only [if_true, List.length_cons, ih]
theorem due_ok (n : Nat) (s : Str) (hs : s.length ≤ big) (C : Cells) : callN Pg (n + 1) 7 [.p (.str s)] C = .ok (.p (.bl (isNm s))) C := by
  rw [call_eq (f := f7) rfl rfl]
  have hl : s.cps.toList.length = s.length := by simp [Str.length]
  have hc := comp_ok (G := Pg.gm (callN Pg n)) (own := [2]) (tg := .nm 2) (it := .val (.var 0)) (cs := .cons (.ex (.chn .le .le (.cst (.str "a")) (.var 2) (.cst (.str "z")))) .nil) (e := .var 2) (σ := [some (.p (.str s)), none, none]) (C := C)
    (xs := s.cps.toList.map fun c => P.str ⟨#[c]⟩) (f := goodP) (.inr ⟨.str s, rfl⟩) (fun x hx C => by
        obtain ⟨c, _, rfl⟩ := List.mem_map.mp hx
        rw [good_c]
        unfold okC
        by_cases h1 : 97 ≤ c
        · by_cases h2 : c ≤ 122
          · simp [bindT, wipeE, le_a, le_z, h1, h2, noX]
          · simp [bindT, wipeE, le_a, le_z, h1, h2, noX]
        · simp [bindT, wipeE, le_a, le_z, h1, noX]) (by rw [List.length_map, hl]; exact hs)
  generalize hr : (s.cps.toList.map fun c => P.str ⟨#[c]⟩).filterMap goodP = r at hc
  have hrl : r.length = (s.cps.toList.filter okC).length := by rw [← hr, good_len]
  have key : decide (r.length = s.length) = s.cps.toList.all okC := by
    rw [hrl, ← hl]
    rw [Bool.eq_iff_iff, decide_eq_true_eq, List.all_eq_true]
    exact List.length_filter_eq_length_iff
  unfold isNm
  rw [← key]
  by_cases h1 : 1 ≤ s.length
  · have i1 : (1 : Int) ≤ s.length := by omega
    by_cases h2 : s.length ≤ 12
    · have i2 : (s.length : Int) ≤ 12 := by omega
      by_cases h3 : r.length = s.length
      · simp [f7, b7, startE, hc, len_str hs, h1, h2, i1, i2, h3]
      · have : ¬ (r.length : Int) = s.length := by omega
        simp [f7, b7, startE, hc, len_str hs, h1, h2, i1, i2, h3, this]
    · have : ¬ (s.length : Int) ≤ 12 := by omega
      simp [f7, b7, startE, hc, len_str hs, h1, h2, i1, this]
  · have : ¬ (1 : Int) ≤ s.length := by omega
    simp [f7, b7, startE, hc, len_str hs, h1, this]
theorem tells_ok (n : Nat) (s : Str) (hs : s.length ≤ big) (C : Cells) : callN Pg (n + 2) 8 [.p (.str s)] C = .ok (.p (.bl true)) C := by
  rw [call_eq (f := f8) rfl rfl]
  have hlk : Pg.look 5 0 = some (.stat 0) := rfl
  simp [f8, b8, startE, hlk, name_ok n s hs, due_ok n s hs, isAny, isP, tyP, isT]
abbrev lBody : Ss := (.cons (.ife (.not (.ex (.call 8 false (.cons (.var 4) .nil)))) (.cons (.ret (.cst (.bl false)))
  .nil) .nil)
  .nil)
theorem law_loop (n : Nat) (xs : List Str) (hx : ∀ s ∈ xs, s.length ≤ big) (σ0 : FW.Env) (h5 : σ0.length = 5) (C : Cells) : ∃ σ', forL (.nm 4) (execs (Pg.gm (callN Pg (n + 2))) lBody) (xs.map P.str) σ0 C = .nx σ' C := by
  obtain ⟨σ', C', ⟨_, rfl⟩, e⟩ := forL_nx (tg := .nm 4) (body := execs (Pg.gm (callN Pg (n + 2))) lBody) (I := fun _ σ C1 => σ.length = 5 ∧ C1 = C) (xs.map P.str) 0 (fun i x σ C1 hi ⟨hl, hC⟩ => by
    subst hC
    rw [List.getElem?_map] at hi
    cases hz : xs[i]? with
    | none => rw [hz] at hi; cases hi
    | some s =>
      rw [hz] at hi
      cases hi
      have g : (σ.set 4 (some (D.p (.str s))))[4]? = some (some (.p (.str s))) := List.getElem?_set_self (by omega)
      refine ⟨σ.set 4 (some (.p (.str s))), σ.set 4 (some (.p (.str s))), C1, rfl, ?_, by simp [hl], rfl⟩
      simp [g, tells_ok n s (hx s (List.mem_of_getElem? hz))]) σ0 C ⟨h5, rfl⟩
  exact ⟨σ', e⟩
theorem len_mk (l : List Nat) : (⟨l.toArray⟩ : Str).length = l.length := by simp [Str.length]
theorem law_ok (ns : List Int) (hn : ns.length ≤ 63) : ∃ C', callN Pg 5 9 [.p (.scr (ns.map .int))] [] = .ok (.p (.bl true)) C' := by
  have hp := pool_ok 3 ns hn []
  have ps : Ps ([] ++ [(⟨.mu, pool ns 0 0 0 ns.length⟩ : Cl)]) 0 := ⟨ns, 0, 0, 0, _, Int.le_refl _, rfl⟩
  obtain ⟨s1, C1, p1, l1, z1, e1⟩ := text_ok 0 ps
  obtain ⟨s2, C2, p2, l2, z2, e2⟩ := text_ok 0 p1
  have hb := big_is
  have ad : binP .add (.str s1) (.str "a") = some (.str (s1 ++ "a")) := b_addS (by
    have : ("a" : Str).length = 1 := by decide +kernel
    omega)
  have sl : ∀ lo hi, ∃ t, t.length ≤ s1.length ∧ slP (.str s1) lo hi = some (.str t) := fun lo hi => by
    refine ⟨⟨((s1.cps.toList.drop (HT.sIx s1.length 0 lo)).take (HT.sIx s1.length s1.length hi - HT.sIx s1.length 0 lo)).toArray⟩, ?_, ?_⟩
    · rw [len_mk, List.length_take, List.length_drop]
      have : s1.cps.toList.length = s1.length := by simp [Str.length]
      omega
    · show (if s1.length ≤ big then some (P.str _) else none) = _
      rw [if_pos (by omega)]
  obtain ⟨t1, ht1, e3⟩ := sl (some 1) none
  obtain ⟨t2, ht2, e4⟩ := sl none (some (-1))
  have up := PyProof.Rows.len_upper s1
  have ups : s1.length ≤ 5592405 := by omega
  have la : (s1 ++ "a").length ≤ 300 := by
    rw [len_app]
    have : ("a" : Str).length = 1 := by decide +kernel
    omega
  rw [call_eq (f := f9) rfl rfl]
  obtain ⟨σ', e5⟩ := law_loop 2 [s1, s2, s1 ++ "a", t1, t2, Txt.upper s1, s2, s1] (fun s hs => by
    simp at hs
    rcases hs with rfl | rfl | rfl | rfl | rfl | rfl | rfl | rfl <;> omega) [some (.p (.scr (ns.map .int))), some (.c 0), some (.p (.str s1)), some (.p (.str s2)), none] rfl C2
  have l1' : C1.length = 1 := by simpa using l1
  have l2' : C2.length = 1 := by omega
  have ft : fin true 0 (.ok (.c 0) [(⟨.mu, pool ns 0 0 0 ns.length⟩ : Cl)]) = .ok (.c 0) [⟨.mu, pool ns 0 0 0 ns.length⟩] := rfl
  simp at hp e1
  refine ⟨C2, ?_⟩
  simp [f9, b9, startE, hp, ft, e1, l1', e2, l2', x_for, ad, e3, e4, slI, isOff, intI, ups, big_is, itemsL]
  simp at e5
  rw [e5]
  rfl
end Lk01

theorem PySem.Challenge.cw_rivalspots_k01_names_holds : PySem.Challenge.rw_rivalspots_k01_names.Holds := by
  exact Lk01.ends (k := 5) ⟨rfl, by decide, by decide⟩ fun ns h _ => Lk01.law_ok ns h
