import PyProof.Rows.All
import Wide.All
import OpenK.AllK
import Wide.FinOn
import HandS.ForMost
import HandS.ForExc
import HandS.IsInst
import HandS.TupAny
import HandS.TupMul
import HandS.Walk
import HandS.HeadEnd
import HandS.Lambda
import HandS.HeadHook4
import HandS.Deep
import HandS.TupLe
import HandS.ListItems
import HandS.Iter
import KE.GoesEnum
import KE.GoesMore
import HandS.Codes
import HandS.RaiseMore
import KE.KIntText
import HandS.Keys
import HandS.TupSets
import KE.KExcIs
import HandS.Dict
import HandS.SetKeys
import HandS.HeadHook1
import HandS.Style
import HandS.Defaults
import HandS.WordsExc
import HandS.LawCells
import HandS.Head0
import HandS.Head1
import HandS.Head2
import HandS.HeadHook2
import HandS.EndTab
import KE.KStateDown
import Lean
import HandS.HeadHook3
import PySem.Challenge.RW_backcopies_k01_not_ways
set_option Elab.async false
set_option autoImplicit false
set_option linter.all false
set_option maxRecDepth 100000
set_option maxHeartbeats 0
/-! BkA: a small language over plain data, its semantics (core Lean alone). -/
namespace Bk

/-- plain data; opq: the script (0), the state of the draws (1) -/
inductive D where
  | non
  | bl (b : Bool)
  | int (i : Int)
  | str (s : List Nat)
  | tup (xs : List D)
  | lst (xs : List D)
  | opq (n : Nat)
deriving Inhabited

/-- a tree of draws -/
inductive F (α : Type) where
  | ret (a : α)
  | draw (n : Nat) (k : Nat → F α)
  | stk

def F.bind {α β : Type} : F α → (α → F β) → F β
  | .ret a, f => f a
  | .draw n k, f => .draw n fun r => (k r).bind f
  | .stk, _ => .stk

def F.All {α : Type} (P : α → Prop) : F α → Prop
  | .ret a => P a
  | .draw n k => ∀ r, r < n → (k r).All P
  | .stk => False

theorem F.All_bind {α β : Type} {P : β → Prop} {f : α → F β} : ∀ {m : F α}, (m.bind f).All P ↔ m.All fun a => (f a).All P
  | .ret a => Iff.rfl
  | .draw n k => by
    show (∀ r, r < n → ((k r).bind f).All P) ↔ (∀ r, r < n → (k r).All fun a => (f a).All P)
    exact ⟨fun h r hr => F.All_bind.mp (h r hr), fun h r hr => F.All_bind.mpr (h r hr)⟩
  | .stk => Iff.rfl
theorem F.All.imp {α : Type} {P Q : α → Prop} (h : ∀ a, P a → Q a) : ∀ {m : F α}, m.All P → m.All Q
  | .ret a, q => h a q
  | .draw n k, q => fun r hr => F.All.imp h (q r hr)
  | .stk, q => q
theorem F.bind_assoc {α β γ : Type} {f : α → F β} {g : β → F γ} : ∀ {m : F α}, (m.bind f).bind g = m.bind fun a => (f a).bind g
  | .ret a => rfl
  | .draw n k => by
    show F.draw n (fun r => ((k r).bind f).bind g) = F.draw n fun r => (k r).bind fun a => (f a).bind g
    congr 1
    funext r
    exact F.bind_assoc
  | .stk => rfl

/-- what an expression comes to: a value, or an exception of a class (by its number) -/
inductive Rx (α : Type) where
  | ok (a : α)
  | ex (c : Nat)

abbrev M (α : Type) := F (Rx α)
def bnd {α β : Type} (m : M α) (f : α → M β) : M β := m.bind fun r => match r with
  | .ok a => f a
  | .ex c => .ret (.ex c)
abbrev ok {α : Type} (a : α) : M α := .ret (.ok a)

/-- what a slot holds: data, or a list of the def's own that may change -/
inductive Vv where
  | d (x : D)
  | r (n : Nat)
/-- the def's own objects -/
inductive Ob where
  | lst (xs : List D)
abbrev Hq := List Ob
abbrev En := List (Option Vv)

def rdV (h : Hq) : Vv → Option D
  | .d x => some x
  | .r n => match h[n]? with
    | some (.lst xs) => some (.lst xs)
    | none => none

inductive Bop where | add | sub | mul | fdiv | mod | pow
inductive Cop where | eq | ne | lt | le | gt | ge | is | isn | isin | nin
inductive Blt where | len | min | max | sum | all | any | tuple | list | abs | str | int
inductive Ity where | int | bool | str | tuple | list
inductive Mth where | join | split

/-- a target -/
inductive Tg where
  | nm (i : Nat)
  | tp (ts : List Tg)

mutual
inductive Ex where
  | var (i : Nat)
  | cst (d : D)
  | glo (g : Nat)
  | tup (es : Exs)
  | lst (es : Exs)
  | bop (o : Bop) (a b : Ex)
  | neg (a : Ex)
  | cmp (o : Cop) (a b : Ex)
  | chn (o p : Cop) (a b c : Ex)
  | and (a b : Ex)
  | or (a b : Ex)
  | not (a : Ex)
  | ite (c : Tx) (a b : Ex)
  | sub (a i : Ex)
  | slc (a : Ex) (lo hi : Ox)
  | cal (f : Nat) (es : Exs)
  | cak (f : Nat) (es ks : Exs)
  | blt (b : Blt) (es : Exs)
  | mth (m : Mth) (o a : Ex)
  | isi (t : Ity) (a : Ex)
  | sst (a : Ex)
  | res (x : Ex)
  | cmp1 (elt : Ex) (tg : Tg) (it : Ix) (own : List Nat)
  | cmpc (elt : Ex) (tg : Tg) (it : Ix) (c : Tx) (own : List Nat)
inductive Exs where
  | nil
  | cons (e : Ex) (es : Exs)
inductive Ox where
  | no
  | so (e : Ex)
inductive Tx where
  | val (e : Ex)
  | and (a b : Tx)
  | or (a b : Tx)
  | not (a : Tx)
inductive Ix where
  | seq (e : Ex)
  | rg1 (a : Ex)
  | rg2 (a b : Ex)
  | rg3 (a b c : Ex)
  | own (i : Nat)
  | enm (e : Ex)
end

/-! ### operations on data -/
/-- longest list or text -/
abbrev lim : Nat := 1000000

mutual
def D.beq : D → D → Bool
  | .non, .non => true
  | .bl a, .bl b => a == b
  | .bl a, .int j => (if a then 1 else 0) == j
  | .int i, .bl b => i == (if b then 1 else 0)
  | .int i, .int j => i == j
  | .str x, .str y => x == y
  | .lst xs, .lst ys => D.beqs xs ys
  | .tup xs, .tup ys => D.beqs xs ys
  | _, _ => false
def D.beqs : List D → List D → Bool
  | [], [] => true
  | x :: xs, y :: ys => D.beq x y && D.beqs xs ys
  | _, _ => false
end

/-- signs that a text may have here: plain ASCII -/
def asc (s : List Nat) : Bool := s.all fun c => Nat.blt c 128
mutual
/-- data that == may look at: its depth at most n -/
def D.shp : Nat → D → Bool
  | _, .non => true
  | _, .bl _ => true
  | _, .int _ => true
  | _, .str s => asc s
  | n + 1, .lst xs => D.shps n xs
  | n + 1, .tup xs => D.shps n xs
  | _, _ => false
def D.shps : Nat → List D → Bool
  | _, [] => true
  | n, x :: xs => D.shp n x && D.shps n xs
end

def allInt : List D → Option (List Int)
  | [] => some []
  | .int i :: r => (allInt r).map (i :: ·)
  | _ :: _ => none
def allBl : List D → Option (List Bool)
  | [] => some []
  | .bl i :: r => (allBl r).map (i :: ·)
  | _ :: _ => none
def allStr : List D → Option (List (List Nat))
  | [] => some []
  | .str i :: r => (allStr r).map (i :: ·)
  | _ :: _ => none

def minL : List Int → Option Int
  | [] => none
  | x :: r => some (r.foldl (fun a b => if b < a then b else a) x)
def maxL : List Int → Option Int
  | [] => none
  | x :: r => some (r.foldl (fun a b => if b > a then b else a) x)
/-- pairs, by their order -/
def ltP (a b : Int × Int) : Bool := if a.1 = b.1 then decide (a.2 < b.2) else decide (a.1 < b.1)
def gtP (a b : Int × Int) : Bool := if a.1 = b.1 then decide (b.2 < a.2) else decide (b.1 < a.1)
def allP : List D → Option (List (Int × Int))
  | [] => some []
  | .tup [.int a, .int b] :: r => (allP r).map ((a, b) :: ·)
  | _ :: _ => none
def bestQ (f : Int × Int → Int × Int → Bool) : List (Int × Int) → Option D
  | [] => none
  | x :: r => match r.foldl (fun a b => if f b a = true then b else a) x with
    | (a, b) => some (.tup [.int a, .int b])
def sumL (xs : List Int) : Int := xs.foldr (· + ·) 0

def repD {α : Type} (n : Nat) (xs : List α) : List α := (List.replicate n xs).flatten

def addD : D → D → Option D
  | .int i, .int j => some (.int (i + j))
  | .str s, .str t => if s.length + t.length ≤ lim then some (.str (s ++ t)) else none
  | .tup s, .tup t => if s.length + t.length ≤ lim then some (.tup (s ++ t)) else none
  | .lst s, .lst t => if s.length + t.length ≤ lim then some (.lst (s ++ t)) else none
  | _, _ => none
def subiD : D → D → Option D
  | .int i, .int j => some (.int (i - j))
  | _, _ => none
def mulD : D → D → Option D
  | .int i, .int j => if i.natAbs < 1000000000 then some (.int (i * j)) else none
  | .str s, .int k => if 0 ≤ k ∧ k ≤ 1000 ∧ s.length ≤ 1000 then some (.str (repD k.toNat s)) else none
  | .tup s, .int k => if 2 ≤ k ∧ k ≤ 1000 ∧ s.length ≤ 1000 ∧ s.isEmpty = false then some (.tup (repD k.toNat s)) else none
  | .lst s, .int k => if 0 ≤ k ∧ k ≤ 1000 ∧ s.length ≤ 1000 then some (.lst (repD k.toNat s)) else none
  | _, _ => none
def fdivD : D → D → Option D
  | .int i, .int j => if 0 < j ∧ j < 1000000000 then some (.int (i / j)) else none
  | _, _ => none
def modD : D → D → Option D
  | .int i, .int j => if 0 < j then some (.int (i % j)) else none
  | _, _ => none
def powD : D → D → Option D
  | .int i, .int j => if 0 ≤ j ∧ j ≤ 100 ∧ i.natAbs < 1000000000000 then some (.int (i ^ j.toNat)) else none
  | _, _ => none
def bopD : Bop → D → D → Option D
  | .add => addD
  | .sub => subiD
  | .mul => mulD
  | .fdiv => fdivD
  | .mod => modD
  | .pow => powD

/-- the order of texts -/
def ltS : List Nat → List Nat → Bool
  | _, [] => false
  | [], _ :: _ => true
  | a :: r, b :: s => if a < b then true else if a == b then ltS r s else false

def D.isFlat : D → Bool
  | .non => true | .bl _ => true | .int _ => true | .str _ => true
  | _ => false

def inD (x : D) (xs : List D) : Bool := xs.any fun y => D.beq y x

def isD : D → D → Option Bool
  | .non, .non => some true
  | .bl _, .non => some false
  | .int _, .non => some false
  | .str _, .non => some false
  | .tup _, .non => some false
  | .lst _, .non => some false
  | .bl a, .bl b => some (a == b)
  | .non, .bl _ => some false
  | .int _, .bl _ => some false
  | .str _, .bl _ => some false
  | _, _ => none
def eqD (x y : D) : Option Bool := if (D.shp 60 x && D.shp 60 y) = true then some (D.beq x y) else none
def ltD : D → D → Option Bool
  | .int i, .int j => some (decide (i < j))
  | .str s, .str t => some (ltS s t)
  | _, _ => none
def gtD : D → D → Option Bool
  | .int i, .int j => some (decide (j < i))
  | _, _ => none
def leD : D → D → Option Bool
  | .int i, .int j => some (decide (i ≤ j))
  | _, _ => none
/-- x in y -/
def isinD : D → D → Option Bool
  | x, .tup ys => if (x.isFlat && ys.all D.isFlat) = true then some (inD x ys) else if (D.shp 60 x && D.shp 60 (.tup ys)) = true then some (inD x ys) else none
  | x, .lst ys => if (x.isFlat && ys.all D.isFlat) = true then some (inD x ys) else if (D.shp 60 x && D.shp 60 (.lst ys)) = true then some (inD x ys) else none
  | .str [c], .str t => some (t.any (· == c))
  | _, _ => none
def cmpD : Cop → D → D → Option Bool
  | .eq, x, y => eqD x y
  | .ne, x, y => (eqD x y).map (!·)
  | .lt, x, y => ltD x y
  | .le, x, y => leD x y
  | .gt, x, y => gtD x y
  | .ge, x, y => leD y x
  | .is, x, y => isD x y
  | .isn, x, y => (isD x y).map (!·)
  | .isin, x, y => isinD x y
  | .nin, x, y => (isinD x y).map (!·)

def ixD (n : Nat) (i : Int) : Option Nat := if 0 ≤ i then (if i < n then some i.toNat else none) else if -(n : Int) ≤ i then some (i + n).toNat else none
def atD {α : Type} (xs : List α) (i : Int) : Option α := (ixD xs.length i).bind fun j => xs[j]?
def subD : D → D → Option D
  | .tup xs, .int i => atD xs i
  | .lst xs, .int i => atD xs i
  | .str s, .int i => if s.length ≤ lim then (atD s i).map fun c => .str [c] else none
  | _, _ => none

def sIxD (n d : Nat) : Option Int → Nat
  | none => d
  | some v => if v < 0 then (v + (n : Int)).toNat else Nat.min v.toNat n
def cutD {α : Type} (xs : List α) (lo hi : Option Int) : List α := (xs.drop (sIxD xs.length 0 lo)).take (sIxD xs.length xs.length hi - sIxD xs.length 0 lo)
def slcD : D → Option Int → Option Int → Option D
  | .tup xs, lo, hi => some (.tup (cutD xs lo hi))
  | .lst xs, lo, hi => some (.lst (cutD xs lo hi))
  | .str s, lo, hi => if s.length ≤ lim then some (.str (cutD s lo hi)) else none
  | _, _, _ => none

def digits : Nat → Option (List Nat)
  | 0 => some [48] | 1 => some [49] | 2 => some [50] | 3 => some [51] | 4 => some [52]
  | 5 => some [53] | 6 => some [54] | 7 => some [55] | 8 => some [56] | 9 => some [57]
  | _ => none

def lenD : List D → Option D
  | [.str s] => if s.length ≤ lim then some (.int s.length) else none
  | [.tup s] => some (.int s.length)
  | [.lst s] => some (.int s.length)
  | _ => none
def minD : List D → Option D
  | [.int i, .int j] => some (.int (if j < i then j else i))
  | [.lst xs] => match allInt xs with
    | some is => (minL is).map .int
    | none => (allP xs).bind (bestQ ltP)
  | _ => none
def maxD : List D → Option D
  | [.int i, .int j] => some (.int (if j > i then j else i))
  | [.lst xs] => match allInt xs with
    | some is => (maxL is).map .int
    | none => (allP xs).bind (bestQ gtP)
  | _ => none
def sumD : List D → Option D
  | [.lst xs] => (allInt xs).map fun is => .int (sumL is)
  | [.tup xs] => (allInt xs).map fun is => .int (sumL is)
  | _ => none
def allD : List D → Option D
  | [.lst xs] => (allBl xs).map fun bs => .bl (bs.all id)
  | _ => none
def anyD : List D → Option D
  | [.lst xs] => (allBl xs).map fun bs => .bl (bs.any id)
  | _ => none
def tupleD : List D → Option D
  | [.lst xs] => some (.tup xs)
  | [.tup xs] => some (.tup xs)
  | _ => none
def listD : List D → Option D
  | [.lst xs] => some (.lst xs)
  | [.tup xs] => some (.lst xs)
  | _ => none
def absD : List D → Option D
  | [.int i] => some (.int (if i < 0 then -i else i))
  | _ => none
/-- pairs put in order, each once -/
def insQ (p : Int × Int) : List (Int × Int) → List (Int × Int)
  | [] => [p]
  | q :: r => if ltP p q = true then p :: q :: r else if p = q then q :: r else q :: insQ p r
def sortQ : List (Int × Int) → List (Int × Int)
  | [] => []
  | p :: l => insQ p (sortQ l)
def smallQ (p : Int × Int) : Bool := decide (0 ≤ p.1) && decide (p.1 < 1000) && decide (0 ≤ p.2) && decide (p.2 < 1000)
def pairD (p : Int × Int) : D := .tup [.int p.1, .int p.2]
/-- sorted(set(..)) of pairs -/
def sstD : D → Option D
  | .lst xs => (allP xs).bind fun ps => if ps.length < 64 ∧ ps.all smallQ = true then some (.lst ((sortQ ps).map pairD)) else none
  | _ => none
def strD : List D → Option D
  | [.str s] => some (.str s)
  | [.int i] => if 0 ≤ i then (digits i.toNat).map .str else none
  | _ => none
def intD : List D → Option D
  | [.int i] => some (.int i)
  | [.str [48]] => some (.int 0) | [.str [49]] => some (.int 1) | [.str [50]] => some (.int 2) | [.str [51]] => some (.int 3) | [.str [52]] => some (.int 4)
  | _ => none
def bltD : Blt → List D → Option D
  | .len => lenD
  | .min => minD
  | .max => maxD
  | .sum => sumD
  | .all => allD
  | .any => anyD
  | .tuple => tupleD
  | .list => listD
  | .abs => absD
  | .str => strD
  | .int => intD

def joinS (sep : List Nat) : List (List Nat) → List Nat
  | [] => []
  | [x] => x
  | x :: r => x ++ sep ++ joinS sep r
/-- parts between signs c -/
def splS (c : Nat) : List Nat → List Nat → List (List Nat)
  | acc, [] => [acc]
  | acc, x :: r => if x = c then acc :: splS c [] r else splS c (acc ++ [x]) r
def splitD : D → D → Option D
  | .str s, .str [c] => if c < 128 ∧ s.length ≤ 1000 then some (.lst ((splS c [] s).map .str)) else none
  | _, _ => none
def joinD : D → D → Option D
  | .str s, .lst xs => (allStr xs).bind fun ss => if (ss.map List.length).sum + ss.length * s.length ≤ lim then some (.str (joinS s ss)) else none
  | _, _ => none
def mthD : Mth → D → D → Option D
  | .join => joinD
  | .split => splitD

def ityD : Ity → D → Option Bool
  | _, .opq _ => none
  | .int, .int _ => some true
  | .int, .bl _ => some true
  | .bool, .bl _ => some true
  | .str, .str _ => some true
  | .tuple, .tup _ => some true
  | .list, .lst _ => some true
  | _, _ => some false

def truD : D → Option Bool
  | .non => some false
  | .bl b => some b
  | .int i => some (!(i == 0))
  | .str s => if s.length ≤ lim then some (!s.isEmpty) else none
  | .tup s => some (!s.isEmpty)
  | .lst s => some (!s.isEmpty)
  | .opq _ => none

/-- the module's constants -/
abbrev Gc := Nat → D
/-- a call: a def by its number, the arguments -/
abbrev Cl := Nat → List D → M D

def lf {α : Type} : Option α → M α
  | some a => ok a
  | none => .stk
def lfD (o : Option D) : M Vv := match o with
  | some a => ok (.d a)
  | none => .stk

mutual
def asg : Tg → D → En → Option En
  | .nm i, d, e => if i < e.length then some (e.set i (some (.d d))) else none
  | .tp ts, .tup ds, e => asgs ts ds e
  | .tp _, _, _ => none
def asgs : List Tg → List D → En → Option En
  | [], [], e => some e
  | t :: ts, d :: ds, e => (asg t d e).bind fun e' => asgs ts ds e'
  | _, _, _ => none
end

def wip (e : En) : List Nat → En
  | [] => e
  | v :: vs => (wip e vs).set v none

/-- one value after another -/
def cmpL (f : D → M (Option D)) : List D → M (List D)
  | [] => ok []
  | d :: ds => bnd (f d) fun o => bnd (cmpL f ds) fun r => ok (match o with | some x => x :: r | none => r)

/-- a value that is no list -/
def isScal : D → Bool
  | .non => true | .bl _ => true | .int _ => true | .str _ => true
  | _ => false
def anyR : List Vv → Bool
  | [] => false
  | .r _ :: _ => true
  | .d _ :: r => anyR r
def rdVs (h : Hq) : List Vv → Option (List D)
  | [] => some []
  | v :: r => (rdV h v).bind fun d => (rdVs h r).map (d :: ·)
def dats0 : List Vv → Option (List D)
  | [] => some []
  | .d x :: r => (dats0 r).map (x :: ·)
  | .r _ :: _ => none
def dats (vs : List Vv) : Option (List D) := match Nat.ble vs.length 1000 with
  | true => dats0 vs
  | false => none

def rngD (lo hi : Int) : Option (List D) := if (-(1000000 : Int) ≤ lo ∧ lo ≤ 1000000) ∧ (-(1000000 : Int) ≤ hi ∧ hi ≤ 1000000) then some ((List.range (hi - lo).toNat).map fun (i : Nat) => .int (lo + (i : Int))) else none
/-- a range that goes down by one -/
def rngN (lo hi : Int) : Option (List D) := if (-(1000000 : Int) ≤ lo ∧ lo ≤ 1000000) ∧ (-(1000000 : Int) ≤ hi ∧ hi ≤ 1000000) then some ((List.range (lo - hi).toNat).map fun (i : Nat) => .int (lo - (i : Int))) else none
/-- items with their numbers -/
def enumL : Nat → List D → List D
  | _, [] => []
  | n, d :: ds => .tup [.int n, d] :: enumL (n + 1) ds
def seqD : D → Option (List D)
  | .tup xs => some xs
  | .lst xs => some xs
  | .str s => if s.length ≤ lim then some (s.map fun c => .str [c]) else none
  | _ => none
def noEx {α : Type} (m : M α) : M α := m.bind fun r => match r with
  | .ok a => ok a
  | .ex _ => .stk
def op2 (h : Hq) (f : D → D → Option D) (v w : Vv) : M Vv := match rdV h v, rdV h w with
  | some x, some y => lfD (f x y)
  | _, _ => .stk

/-- what the law's answer-teller calls an exception: its place, its name -/
def exNm : Nat → Option (Nat × List Nat)
  | 0 => some (0, [114, 117, 108, 101])
  | 1 => some (2, [108, 105, 110, 101])
  | 2 => some (6, [115, 105, 100, 101])
  | 3 => some (3, [115, 112, 111, 116])
  | 4 => some (1, [114, 117, 108, 101, 115])
  | 5 => some (4, [119, 111, 114, 100, 115])
  | 6 => some (10, [117, 110, 115, 117, 114, 101])
  | 7 => some (11, [97, 108, 105, 107, 101])
  | 8 => some (5, [115, 105, 122, 101, 115])
  | 9 => some (12, [110, 111, 110, 101])
  | 10 => some (7, [99, 111, 117, 110, 116])
  | 11 => some (9, [115, 99, 114, 105, 112, 116])
  | 13 => some (8, [115, 105, 103, 110])
  | 14 => some (13, [109, 117, 99, 104])
  | 15 => some (14, [111, 118, 101, 114])
  | 16 => some (15, [117, 110, 100, 111])
  | _ => none
abbrev retS : List Nat := [114, 101, 116, 117, 114, 110, 115]

mutual
def evE (gc : Gc) (cl : Cl) : Ex → En → Hq → M Vv
  | .var i, e, _ => match e.getD i none with
    | some v => ok v
    | none => .stk
  | .cst d, _, _ => ok (.d d)
  | .glo g, _, _ => ok (.d (gc g))
  | .tup es, e, h => bnd (evEs gc cl es e h) fun vs => lfD ((dats vs).map .tup)
  | .lst es, e, h => bnd (evEs gc cl es e h) fun vs => lfD ((dats vs).map .lst)
  | .bop o a b, e, h => bnd (evE gc cl a e h) fun v => bnd (evE gc cl b e h) fun w => op2 h (bopD o) v w
  | .neg a, e, h => bnd (evE gc cl a e h) fun v => match v with
    | .d (.int i) => ok (.d (.int (-i)))
    | _ => .stk
  | .cmp o a b, e, h => bnd (evE gc cl a e h) fun v => bnd (evE gc cl b e h) fun w => op2 h (fun x y => (cmpD o x y).map .bl) v w
  | .chn o p a b c, e, h => bnd (evE gc cl a e h) fun v => bnd (evE gc cl b e h) fun w => bnd (op2 h (fun x y => (cmpD o x y).map .bl) v w) fun k => match k with
    | .d (.bl true) => bnd (evE gc cl c e h) fun u => op2 h (fun x y => (cmpD p x y).map .bl) w u
    | .d (.bl false) => ok (.d (.bl false))
    | _ => .stk
  | .and a b, e, h => bnd (evE gc cl a e h) fun v => match v with
    | .d (.bl true) => evE gc cl b e h
    | .d (.bl false) => ok (.d (.bl false))
    | _ => .stk
  | .or a b, e, h => bnd (evE gc cl a e h) fun v => match v with
    | .d (.bl false) => evE gc cl b e h
    | .d (.bl true) => ok (.d (.bl true))
    | _ => .stk
  | .not a, e, h => bnd (evE gc cl a e h) fun v => match v with
    | .d (.bl b) => ok (.d (.bl (!b)))
    | _ => .stk
  | .ite c a b, e, h => bnd (evT gc cl c e h) fun k => match k with
    | true => evE gc cl a e h
    | false => evE gc cl b e h
  | .sub a i, e, h => bnd (evE gc cl a e h) fun v => bnd (evE gc cl i e h) fun w => op2 h subD v w
  | .slc a lo hi, e, h => bnd (evE gc cl a e h) fun v => bnd (evO gc cl lo e h) fun l => bnd (evO gc cl hi e h) fun u => match rdV h v with
    | some x => lfD (slcD x l u)
    | none => .stk
  | .cal f es, e, h => bnd (evEs gc cl es e h) fun vs => match rdVs h vs with
    | some ds => bnd (cl f ds) fun d => match !anyR vs || isScal d with
      | true => ok (.d d)
      | false => .stk
    | none => .stk
  | .cak f es ks, e, h => bnd (evEs gc cl es e h) fun vs => bnd (evEs gc cl ks e h) fun ws => match rdVs h (vs ++ ws) with
    | some ds => bnd (cl f ds) fun d => match !anyR (vs ++ ws) || isScal d with
      | true => ok (.d d)
      | false => .stk
    | none => .stk
  | .blt b es, e, h => bnd (evEs gc cl es e h) fun vs => match rdVs h vs with
    | some ds => lfD (bltD b ds)
    | none => .stk
  | .mth m o a, e, h => bnd (evE gc cl o e h) fun v => match v with
    | .d (.str s) => bnd (evE gc cl a e h) fun w => op2 h (mthD m) (.d (.str s)) w
    | _ => .stk
  | .sst a, e, h => bnd (evE gc cl a e h) fun v => match rdV h v with
    | some x => lfD (sstD x)
    | none => .stk
  | .res x, e, h => (evE gc cl x e h).bind fun r => match r with
    | .ok (.d d) => ok (.d (.tup [.str retS, d]))
    | .ok (.r _) => .stk
    | .ex c => match exNm c with
      | some (_, s) => ok (.d (.tup [.str s]))
      | none => .stk
  | .isi t a, e, h => bnd (evE gc cl a e h) fun v => match rdV h v with
    | some x => lfD ((ityD t x).map .bl)
    | none => .stk
  | .cmp1 elt tg it own, e, h => bnd (evI gc cl it e h) fun xs => match Nat.ble xs.length lim with
    | true => bnd (noEx (cmpL (fun d => match asg tg d (wip e own) with
      | some e1 => bnd (evE gc cl elt e1 h) fun v => match v with
        | .d x => ok (some x)
        | .r _ => .stk
      | none => .stk) xs)) fun ys => ok (.d (.lst ys))
    | false => .stk
  | .cmpc elt tg it c own, e, h => bnd (evI gc cl it e h) fun xs => match Nat.ble xs.length lim with
    | true => bnd (noEx (cmpL (fun d => match asg tg d (wip e own) with
      | some e1 => bnd (evT gc cl c e1 h) fun k => match k with
        | true => bnd (evE gc cl elt e1 h) fun v => match v with
          | .d x => ok (some x)
          | .r _ => .stk
        | false => ok none
      | none => .stk) xs)) fun ys => ok (.d (.lst ys))
    | false => .stk
def evEs (gc : Gc) (cl : Cl) : Exs → En → Hq → M (List Vv)
  | .nil, _, _ => ok []
  | .cons x xs, e, h => bnd (evE gc cl x e h) fun v => bnd (evEs gc cl xs e h) fun vs => ok (v :: vs)
def evO (gc : Gc) (cl : Cl) : Ox → En → Hq → M (Option Int)
  | .no, _, _ => ok none
  | .so x, e, h => bnd (evE gc cl x e h) fun v => match v with
    | .d (.int i) => ok (some i)
    | _ => .stk
def evT (gc : Gc) (cl : Cl) : Tx → En → Hq → M Bool
  | .val x, e, h => bnd (evE gc cl x e h) fun v => match rdV h v with
    | some d => lf (truD d)
    | none => .stk
  | .and a b, e, h => bnd (evT gc cl a e h) fun k => match k with
    | true => evT gc cl b e h
    | false => ok false
  | .or a b, e, h => bnd (evT gc cl a e h) fun k => match k with
    | true => ok true
    | false => evT gc cl b e h
  | .not a, e, h => bnd (evT gc cl a e h) fun k => ok (!k)
/-- what is walked, one after another -/
def evI (gc : Gc) (cl : Cl) : Ix → En → Hq → M (List D)
  | .seq x, e, h => bnd (evE gc cl x e h) fun v => match v with
    | .d d => lf (seqD d)
    | .r _ => .stk
  | .own i, e, h => match e.getD i none with
    | some (.r n) => match h[n]? with
      | some (.lst xs) => ok xs
      | none => .stk
    | _ => .stk
  | .enm x, e, h => bnd (evE gc cl x e h) fun v => match v with
    | .d (.tup ds) => ok (enumL 0 ds)
    | _ => .stk
  | .rg1 a, e, h => bnd (evE gc cl a e h) fun v => match v with
    | .d (.int i) => lf (rngD 0 i)
    | _ => .stk
  | .rg2 a b, e, h => bnd (evE gc cl a e h) fun v => bnd (evE gc cl b e h) fun w => match v, w with
    | .d (.int i), .d (.int j) => lf (rngD i j)
    | _, _ => .stk
  | .rg3 a b c, e, h => bnd (evE gc cl a e h) fun v => bnd (evE gc cl b e h) fun w => bnd (evE gc cl c e h) fun u => match v, w, u with
    | .d (.int i), .d (.int j), .d (.int k) => if k = -1 then lf (rngN i j) else .stk
    | _, _, _ => .stk
end

def isOwn : Ix → Bool
  | .own _ => true
  | _ => false
mutual
/-- the places that a target stores to -/
def tgS : Tg → List Nat
  | .nm i => [i]
  | .tp ts => tgSs ts
def tgSs : List Tg → List Nat
  | [] => []
  | t :: ts => tgS t ++ tgSs ts
end

/-! ### statements -/
/-- how a statement ends -/
inductive Fl where
  | nx (e : En) (h : Hq)
  | rt (v : Vv) (h : Hq)
  | bk (e : En) (h : Hq)
  | ct (e : En) (h : Hq)
  | ex (c : Nat)

/-- the right side of an assignment: a value, or a new list of the def's own -/
inductive Rh where
  | ex (x : Ex)
  | new (es : Exs)
  | rep (es : Exs) (n : Ex)
  | ite (c : Tx) (a b : Rh)

mutual
inductive Sx where
  | set (tg : Tg) (x : Ex)
  | put (i : Nat) (r : Rh)
  | par (is : List Nat) (rs : List Rh)
  | aug (i : Nat) (o : Bop) (x : Ex)
  | app (i : Nat) (x : Ex)
  | ext (i : Nat) (x : Ex)
  | sti (i : Nat) (j x : Ex)
  | ife (c : Tx) (a b : Ss)
  | whl (c : Tx) (b : Ss)
  | for_ (tg : Tg) (it : Ix) (b : Ss)
  | forr (tg : Tg) (i : Nat) (b : Ss)
  | ret (x : Ex)
  | retn
  | rai (c : Nat)
  | exp (x : Ex)
  | brk
  | cnt
inductive Ss where
  | nil
  | cons (s : Sx) (ss : Ss)
end

/-- the expression's value, an exception let on -/
def onE {α : Type} (m : M α) (f : α → F Fl) : F Fl := m.bind fun r => match r with
  | .ok a => f a
  | .ex c => .ret (.ex c)
def onN (m : F Fl) (f : En → Hq → F Fl) : F Fl := m.bind fun r => match r with
  | .nx e h => f e h
  | r => .ret r

/-- a loop over items -/
def forL (tg : Tg) (body : En → Hq → F Fl) : List D → En → Hq → F Fl
  | [], e, h => .ret (.nx e h)
  | d :: ds, e, h => match asg tg d e with
    | some e1 => (body e1 h).bind fun r => match r with
      | .nx e2 h2 => forL tg body ds e2 h2
      | .ct e2 h2 => forL tg body ds e2 h2
      | .bk e2 h2 => .ret (.nx e2 h2)
      | .rt v h2 => .ret (.rt v h2)
      | .ex c => .ret (.ex c)
    | none => .stk
/-- a loop over a list of the def's own, as it stands at each turn -/
def forR (tg : Tg) (n : Nat) (body : En → Hq → F Fl) : Nat → Nat → En → Hq → F Fl
  | 0, i, e, h => match h[n]? with
    | some (.lst ys) => match Nat.beq ys.length i with
      | true => .ret (.nx e h)
      | false => .stk
    | none => .stk
  | m + 1, i, e, h => match h[n]? with
    | some (.lst ys) => match ys[i]? with
      | some d => match asg tg d e with
        | some e1 => (body e1 h).bind fun r => match r with
          | .nx e2 h2 => forR tg n body m (i + 1) e2 h2
          | .ct e2 h2 => forR tg n body m (i + 1) e2 h2
          | .bk e2 h2 => .ret (.nx e2 h2)
          | .rt v h2 => .ret (.rt v h2)
          | .ex c => .ret (.ex c)
        | none => .stk
      | none => .stk
    | none => .stk
/-- a while, at most n turns -/
def whlL (cond : En → Hq → M Bool) (body : En → Hq → F Fl) : Nat → En → Hq → F Fl
  | 0, _, _ => .stk
  | n + 1, e, h => onE (cond e h) fun k => match k with
    | true => (body e h).bind fun r => match r with
      | .nx e2 h2 => whlL cond body n e2 h2
      | .ct e2 h2 => whlL cond body n e2 h2
      | .bk e2 h2 => .ret (.nx e2 h2)
      | .rt v h2 => .ret (.rt v h2)
      | .ex c => .ret (.ex c)
    | false => .ret (.nx e h)

/-- the right side: the value, the objects behind it -/
def evR (gc : Gc) (cl : Cl) : Rh → En → Hq → M (Vv × Hq)
  | .ex x, e, h => bnd (evE gc cl x e h) fun v => ok (v, h)
  | .new es, e, h => bnd (evEs gc cl es e h) fun vs => match dats vs with
    | some ds => ok (.r h.length, h ++ [.lst ds])
    | none => .stk
  | .rep es n, e, h => bnd (evEs gc cl es e h) fun vs => match dats vs with
    | some ds => bnd (evE gc cl n e h) fun w => match w with
      | .d (.int k) => if 0 ≤ k ∧ k ≤ 10000 ∧ ds.length ≤ 100 then ok (.r h.length, h ++ [.lst (repD k.toNat ds)]) else .stk
      | _ => .stk
    | none => .stk
  | .ite c a b, e, h => bnd (evT gc cl c e h) fun k => match k with
    | true => evR gc cl a e h
    | false => evR gc cl b e h
def evRs (gc : Gc) (cl : Cl) : List Rh → En → Hq → M (List Vv × Hq)
  | [], _, h => ok ([], h)
  | r :: rs, e, h => bnd (evR gc cl r e h) fun p => bnd (evRs gc cl rs e p.2) fun q => ok (p.1 :: q.1, q.2)
/-- names stored one after another -/
def sets : List Nat → List Vv → En → Option En
  | [], [], e => some e
  | i :: is, v :: vs, e => if i < e.length then sets is vs (e.set i (some v)) else none
  | _, _, _ => none

mutual
def exS (gc : Gc) (cl : Cl) (wn : Nat) : Sx → En → Hq → F Fl
  | .set tg x, e, h => onE (evE gc cl x e h) fun v => match v with
    | .d d => match asg tg d e with
      | some e1 => .ret (.nx e1 h)
      | none => .stk
    | .r _ => .stk
  | .put i r, e, h => onE (evR gc cl r e h) fun p => if i < e.length then .ret (.nx (e.set i (some p.1)) p.2) else .stk
  | .par is rs, e, h => onE (evRs gc cl rs e h) fun p => match sets is p.1 e with
    | some e1 => .ret (.nx e1 p.2)
    | none => .stk
  | .aug i o x, e, h => match e.getD i none with
    | some (.d a) => onE (evE gc cl x e h) fun v => match v with
      | .d b => match o, a, b with
        | .add, .int p, .int q => .ret (.nx (e.set i (some (.d (.int (p + q))))) h)
        | _, _, _ => .stk
      | .r _ => .stk
    | _ => .stk
  | .app i x, e, h => match e.getD i none with
    | some (.r n) => onE (evE gc cl x e h) fun v => match v, h[n]? with
      | .d d, some (.lst xs) => match Nat.blt xs.length lim with
        | true => .ret (.nx e (h.set n (.lst (xs ++ [d]))))
        | false => .stk
      | _, _ => .stk
    | _ => .stk
  | .ext i x, e, h => match e.getD i none with
    | some (.r n) => onE (evE gc cl x e h) fun v => match v, h[n]? with
      | .d (.lst ds), some (.lst xs) => match Nat.ble (xs.length + ds.length) lim with
        | true => .ret (.nx e (h.set n (.lst (xs ++ ds))))
        | false => .stk
      | _, _ => .stk
    | _ => .stk
  | .sti i j x, e, h => onE (evE gc cl x e h) fun v => match e.getD i none with
    | some (.r n) => onE (evE gc cl j e h) fun w => match v, w, h[n]? with
      | .d d, .d (.int k), some (.lst xs) => match ixD xs.length k with
        | some m => .ret (.nx e (h.set n (.lst (xs.set m d))))
        | none => .stk
      | _, _, _ => .stk
    | _ => .stk
  | .ife c a b, e, h => onE (evT gc cl c e h) fun k => match k with
    | true => exSs gc cl wn a e h
    | false => exSs gc cl wn b e h
  | .whl c b, e, h => whlL (fun e h => evT gc cl c e h) (fun e h => exSs gc cl wn b e h) wn e h
  | .for_ tg it b, e, h => match isOwn it with
    | false => onE (evI gc cl it e h) fun xs => forL tg (fun e h => exSs gc cl wn b e h) xs e h
    | true => .stk
  | .forr tg i b, e, h => match e.getD i none with
    | some (.r n) => match h[n]? with
      | some (.lst ys) => forR tg n (fun e h => exSs gc cl wn b e h) ys.length 0 e h
      | none => .stk
    | _ => .stk
  | .ret x, e, h => onE (evE gc cl x e h) fun v => .ret (.rt v h)
  | .retn, _, h => .ret (.rt (.d .non) h)
  | .rai c, _, _ => .ret (.ex c)
  | .exp x, e, h => onE (evE gc cl x e h) fun _ => .ret (.nx e h)
  | .brk, e, h => .ret (.bk e h)
  | .cnt, e, h => .ret (.ct e h)
def exSs (gc : Gc) (cl : Cl) (wn : Nat) : Ss → En → Hq → F Fl
  | .nil, e, h => .ret (.nx e h)
  | .cons s ss, e, h => onN (exS gc cl wn s e h) fun e1 h1 => exSs gc cl wn ss e1 h1
end

/-! ### defs -/
structure Fn where
  np : Nat
  ns : Nat
  body : Ss
def endD (r : Fl) : M D := match r with
  | .nx _ _ => ok .non
  | .rt v h => match rdV h v with
    | some d => ok d
    | none => .stk
  | .ex c => .ret (.ex c)
  | _ => .stk
def runF (gc : Gc) (cl : Cl) (wn : Nat) (f : Fn) (ds : List D) : M D :=
  match Nat.beq ds.length f.np with
  | true => (exSs gc cl wn f.body (ds.map (fun d => some (.d d)) ++ List.replicate (f.ns - f.np) none) []).bind endD
  | false => .stk
/-- a def of the table, or a draw -/
inductive Df where
  | fn (f : Fn)
  | beg
  | drw
abbrev Tab := List (Nat × Df)
def drwD : List D → M D
  | [.opq 0, .opq 1, .int n] => if 0 < n ∧ n ≤ 1000000 then .draw n.toNat fun r => ok (.int r) else .stk
  | _ => .stk
def callF (gc : Gc) (T : Tab) (wn : Nat) : Nat → Cl
  | 0, _, _ => .stk
  | k + 1, f, ds => match T.lookup f with
    | some (.fn g) => runF gc (callF gc T wn k) wn g ds
    | some .drw => drwD ds
    | some .beg => match ds with
      | [] => ok (.opq 1)
      | _ => .stk
    | none => .stk
end Bk
/-! BkB: what data stand for in the abstract heap; how they stay. -/
namespace Bk
open PySem PySem.Spec PyProof.Rows L2

/-- where the def's own lists stand, which lists never change, the script, the state of the draws -/
structure Sg where
  as : List Addr
  fz : Addr → Prop
  sc : Addr
  tw : Addr → Addr → Prop
/-- the defs in whose texts a lambda stands (in some law), their tables of code objects -/
def LN : List Str := ["law", "_law_orders", "_law_refused", "_law_holds", "_law_all"]
def tdf (K : PySem.W.Frag) : List Str := LN.filter fun x => match PySem.W.nsIn K mainGlobals x with
  | some (some (.ref _)) => true
  | _ => false
def lamQ (x : Str) : Str := x ++ ".<locals>." ++ "<lambda>"
def tbl (K : PySem.W.Frag) : List (Addr × Str) := (tdf K).map fun x => ((He.cT K (x, none)).2, lamQ x)
/-- no table stands for two defs -/
def tbU (K : PySem.W.Frag) : Bool := (tbl K).all fun p => (tbl K).all fun q => decide (p.1 ≠ q.1) || decide (p.2 = q.2)
theorem tbU_ok {K : PySem.W.Frag} (h : tbU K = true) : ∀ p ∈ tbl K, ∀ q ∈ tbl K, p.1 = q.1 → p.2 = q.2 := fun p hp q hq e => by
  have := List.all_eq_true.mp (List.all_eq_true.mp h p hp) q hq
  rw [Bool.or_eq_true, decide_eq_true_iff, decide_eq_true_iff] at this
  exact this.resolve_left (fun n => n e)
def Sg.twA (S : Sg) (a : Addr) : Prop := ∃ t b, S.tw t b ∧ (a = t ∨ a = b)

section
variable (K : PySem.W.Frag) (S : Sg) (H : Hp)
mutual
def RV : D → V → Prop
  | .non, v => v = .non
  | .bl b, v => v = .bl b
  | .int i, v => v = .int i
  | .str s, v => v = .str ⟨s.toArray⟩
  | .tup ds, v => ∃ a vs, v = .ref a ∧ SqT K H a vs ∧ RVs ds vs
  | .lst ds, v => ∃ a vs, v = .ref a ∧ H a = some (.lst vs) ∧ S.fz a ∧ RVs ds vs
  | .opq 0, v => v = .ref S.sc
  | .opq 1, v => ∃ t b, S.tw t b ∧ v = .ref t
  | .opq (_ + 2), _ => False
def RVs : List D → List V → Prop
  | [], vs => vs = []
  | d :: ds, vs => ∃ v r, vs = v :: r ∧ RV d v ∧ RVs ds r
end
/-- the state of the draws: how many there were, what is left of great numbers -/
def RestOk (rs : List (Key × V)) : Prop := (rs.map (·.1)).Nodup ∧ ∀ p ∈ rs, ∃ (i : Nat) (n : Int), p = (Sum.inl (i : Int), V.int n) ∧ i < 63
def TownOk (t b : Addr) : Prop := ∃ (c : Nat) (rs : List (Key × V)), H t = some (.dK [(Sum.inr (Str.ofString "count"), .int c), (Sum.inr (Str.ofString "rests"), .ref b)]) ∧ H b = some (.dK rs) ∧ RestOk rs
def ScrOk (a : Addr) : Prop := ∃ ns : List Int, ns.length ≤ 63 ∧ ((∃ o, H a = some (.frz o (.lst (ns.map V.int)))) ∨ (H a = some (.lst (ns.map V.int)) ∧ S.fz a) ∨
  ∃ (o : Obj) (its : Array Value) (n : Nat), K.lookup a = some o ∧ o.cls = .type "list" ∧ o.dict = none ∧ o.data = .seq its n ∧ its.size ≤ sizeLine ∧ Vals (ns.map V.int) its.toList)
def RO : Ob → Addr → Prop
  | .lst ds, a => ∃ vs, H a = some (.lst vs) ∧ RVs K S H ds vs
/-- no table of code objects -/
def NT (o : HO) : Prop := ∀ ps, o ≠ .tbl ps
structure RelH (h : Hq) : Prop where
  len : S.as.length = h.length
  nd : S.as.Nodup
  obj : ∀ (n : Nat) o, h[n]? = some o → ∃ a, S.as[n]? = some a ∧ RO K S H o a
  sep : ∀ a ∈ S.as, ¬ S.fz a
  scr : ScrOk K S H S.sc
  twn : ∀ t b, S.tw t b → TownOk H t b
  fzs : ∀ a, S.fz a → ∃ o, H a = some o ∧ NT o
  tab : LamX.Tabs (tbl K) H
def RW : Vv → V → Prop
  | .d x, v => RV K S H x v
  | .r n, v => ∃ a, S.as[n]? = some a ∧ v = .ref a
def RWs : List Vv → List V → Prop
  | [], vs => vs = []
  | d :: ds, vs => ∃ v r, vs = v :: r ∧ RW K S H d v ∧ RWs ds r
structure RelE (e : En) (σ : L2.St) : Prop where
  len : e.length = σ.length
  sl : ∀ (i : Nat) x, e[i]? = some (some x) → ∃ v, σ[i]? = some (some v) ∧ RW K S H x v
end

structure Ext (S : Sg) (H : Hp) (S' : Sg) (H' : Hp) : Prop where
  as : ∃ ns, S'.as = S.as ++ ns
  kp : ∀ a o, H a = some o → NT o → ∃ o', H' a = some o' ∧ NT o'
  na : ∀ a o, H a = some o → NT o → a ∈ S'.as → a ∈ S.as
  fz : ∀ a, S.fz a → S'.fz a
  nf : ∀ a o, H a = some o → NT o → S'.fz a → S.fz a
  fr : ∀ a o, H a = some o → NT o → a ∉ S.as → ¬ S.twA a → H' a = some o
  sc : S'.sc = S.sc
  tw : ∀ t b, S.tw t b → S'.tw t b
  nt : ∀ a o, H a = some o → NT o → S'.twA a → S.twA a
theorem nt_lst {vs : List V} : NT (.lst vs) := fun _ z => nomatch z
theorem nt_tup {vs : List V} : NT (.tup vs) := fun _ z => nomatch z
theorem nt_dK {vs : List (Key × V)} : NT (.dK vs) := fun _ z => nomatch z
theorem nt_frz {o : Obj} {u : HO} : NT (.frz o u) := fun _ z => nomatch z
theorem Ext.refl (S : Sg) (H : Hp) : Ext S H S H := ⟨⟨[], by simp⟩, fun _ o h n => ⟨o, h, n⟩, fun _ _ _ _ h => h, fun _ h => h, fun _ _ _ _ h => h, fun _ _ h _ _ _ => h, rfl, fun _ _ h => h, fun _ _ _ _ h => h⟩
theorem Ext.trans {S S1 S2 : Sg} {H H1 H2 : Hp} (x : Ext S H S1 H1) (y : Ext S1 H1 S2 H2) : Ext S H S2 H2 where
  as := by
    obtain ⟨n1, e1⟩ := x.as
    obtain ⟨n2, e2⟩ := y.as
    exact ⟨n1 ++ n2, by rw [e2, e1, List.append_assoc]⟩
  kp := fun a o h n => by
    obtain ⟨o1, h1, n1⟩ := x.kp a o h n
    exact y.kp a o1 h1 n1
  na := fun a o h n m => by
    obtain ⟨o1, h1, n1⟩ := x.kp a o h n
    exact x.na a o h n (y.na a o1 h1 n1 m)
  fz := fun a h => y.fz a (x.fz a h)
  nf := fun a o h n m => by
    obtain ⟨o1, h1, n1⟩ := x.kp a o h n
    exact x.nf a o h n (y.nf a o1 h1 n1 m)
  fr := fun a o h n h1 h2 => y.fr a o (x.fr a o h n h1 h2) n (fun m => h1 (x.na a o h n m)) (fun m => h2 (x.nt a o h n m))
  sc := y.sc.trans x.sc
  tw := fun t b h => y.tw t b (x.tw t b h)
  nt := fun a o h n m => by
    obtain ⟨o1, h1, n1⟩ := x.kp a o h n
    exact x.nt a o h n (y.nt a o1 h1 n1 m)

section
variable {K : PySem.W.Frag} {S S' : Sg} {H H' : Hp} {h : Hq}
theorem RelH.inAs (r : RelH K S H h) {a : Addr} (m : a ∈ S.as) : ∃ vs, H a = some (.lst vs) := by
  obtain ⟨n, hn, e⟩ := List.getElem_of_mem m
  have hn' : n < h.length := by rw [← r.len]; exact hn
  obtain ⟨b, e1, q⟩ := r.obj n h[n] (List.getElem?_eq_getElem hn')
  rw [List.getElem?_eq_getElem hn] at e1
  have : b = a := by rw [← e]; exact (Option.some.inj e1).symm
  subst this
  cases hq : h[n] with
  | lst ds =>
    rw [hq] at q
    obtain ⟨vs, q, _⟩ := q
    exact ⟨vs, q⟩
theorem RelH.notTw (r : RelH K S H h) {a : Addr} (m : S.twA a) : ∃ kvs, H a = some (.dK kvs) := by
  obtain ⟨t, b, e, q⟩ := m
  obtain ⟨c, rs, h1, h2, _⟩ := r.twn t b e
  rcases q with rfl | rfl
  · exact ⟨_, h1⟩
  · exact ⟨_, h2⟩
/-- what is no list and no dict is kept -/
theorem RelH.keep (r : RelH K S H h) (x : Ext S H S' H') {a : Addr} {o : HO} (e : H a = some o) (h1 : ∀ vs, o ≠ .lst vs) (h2 : ∀ kvs, o ≠ .dK kvs) (h3 : NT o := by intro _ z; cases z) : H' a = some o := by
  refine x.fr a o e h3 (fun m => ?_) (fun m => ?_)
  · obtain ⟨vs, q⟩ := r.inAs m
    rw [e] at q
    exact h1 vs (Option.some.inj q)
  · obtain ⟨vs, q⟩ := r.notTw m
    rw [e] at q
    exact h2 vs (Option.some.inj q)
theorem RelH.keepL (r : RelH K S H h) (x : Ext S H S' H') {a : Addr} {vs : List V} (e : H a = some (.lst vs)) (f : S.fz a) : H' a = some (.lst vs) := by
  refine x.fr a _ e nt_lst (fun m => r.sep a m f) (fun m => ?_)
  obtain ⟨vs, q⟩ := r.notTw m
  rw [e] at q
  cases q
theorem RelH.keepT (r : RelH K S H h) (x : Ext S H S' H') {a : Addr} {vs : List V} (e : SqT K H a vs) : SqT K H' a vs := by
  rcases e with (e | ⟨o, e⟩) | e
  · exact .inl (.inl (r.keep x e (fun _ z => nomatch z) fun _ z => nomatch z))
  · exact .inl (.inr ⟨o, r.keep x e (fun _ z => nomatch z) fun _ z => nomatch z⟩)
  · exact .inr e
theorem RelH.keepS (r : RelH K S H h) (x : Ext S H S' H') {a : Addr} (e : ScrOk K S H a) : ScrOk K S' H' a := by
  obtain ⟨ns, l, e⟩ := e
  refine ⟨ns, l, ?_⟩
  rcases e with ⟨o, e⟩ | ⟨e, f⟩ | e
  · exact .inl ⟨o, r.keep x e (fun _ z => nomatch z) fun _ z => nomatch z⟩
  · exact .inr (.inl ⟨r.keepL x e f, x.fz a f⟩)
  · exact .inr (.inr e)
mutual
theorem RV.ext (r : RelH K S H h) (x : Ext S H S' H') : ∀ (d : D) (v : V), RV K S H d v → RV K S' H' d v
  | .non, v, q => by unfold RV at q ⊢; exact q
  | .bl b, v, q => by unfold RV at q ⊢; exact q
  | .int i, v, q => by unfold RV at q ⊢; exact q
  | .str s, v, q => by unfold RV at q ⊢; exact q
  | .tup ds, v, q => by
    unfold RV at q ⊢
    obtain ⟨a, vs, e, t, q⟩ := q
    exact ⟨a, vs, e, r.keepT x t, RVs.ext r x ds vs q⟩
  | .lst ds, v, q => by
    unfold RV at q ⊢
    obtain ⟨a, vs, e, t, f, q⟩ := q
    exact ⟨a, vs, e, r.keepL x t f, x.fz a f, RVs.ext r x ds vs q⟩
  | .opq 0, v, q => by unfold RV at q ⊢; rw [x.sc]; exact q
  | .opq 1, v, q => by
    unfold RV at q ⊢
    obtain ⟨t, b, e, q⟩ := q
    exact ⟨t, b, x.tw _ _ e, q⟩
  | .opq (_ + 2), v, q => by unfold RV at q; exact q.elim
theorem RVs.ext (r : RelH K S H h) (x : Ext S H S' H') : ∀ (ds : List D) (vs : List V), RVs K S H ds vs → RVs K S' H' ds vs
  | [], vs, q => by unfold RVs at q ⊢; exact q
  | d :: ds, vs, q => by
    unfold RVs at q ⊢
    obtain ⟨v, t, e, q1, q2⟩ := q
    exact ⟨v, t, e, RV.ext r x d v q1, RVs.ext r x ds t q2⟩
end
theorem RW.ext (r : RelH K S H h) (x : Ext S H S' H') : ∀ (d : Vv) (v : V), RW K S H d v → RW K S' H' d v
  | .d x', v, q => RV.ext r x x' v q
  | .r n, v, q => by
    obtain ⟨a, e, q⟩ := q
    obtain ⟨ns, e2⟩ := x.as
    refine ⟨a, ?_, q⟩
    rw [e2, List.getElem?_append_left (List.getElem?_eq_some_iff.mp e).1]
    exact e
theorem RWs.ext (r : RelH K S H h) (x : Ext S H S' H') : ∀ (ds : List Vv) (vs : List V), RWs K S H ds vs → RWs K S' H' ds vs
  | [], vs, q => q
  | d :: ds, vs, q => by
    obtain ⟨v, t, e, q1, q2⟩ := q
    exact ⟨v, t, e, RW.ext r x d v q1, RWs.ext r x ds t q2⟩
theorem RelE.ext (r : RelH K S H h) (x : Ext S H S' H') {e : En} {σ : L2.St} (q : RelE K S H e σ) : RelE K S' H' e σ :=
  ⟨q.len, fun i y e1 => by
    obtain ⟨v, e2, q2⟩ := q.sl i y e1
    exact ⟨v, e2, RW.ext r x y v q2⟩⟩

/-- a new object that is none of the def's own lists -/
theorem ext_new {p : Addr} {o : HO} (np : H p = none) : Ext S H S (upd H p o) :=
  ⟨⟨[], by simp⟩, fun a o' e n => ⟨o', by rw [upd_ne (ne_of_none e np)]; exact e, n⟩, fun _ _ _ _ m => m, fun _ m => m, fun _ _ _ _ m => m, fun a o' e _ _ _ => by rw [upd_ne (ne_of_none e np)]; exact e, rfl, fun _ _ m => m, fun _ _ _ _ m => m⟩
/-- more objects -/
theorem ext_more (k : ∀ a o, H a = some o → NT o → H' a = some o) : Ext S H S H' :=
  ⟨⟨[], by simp⟩, fun a o' e n => ⟨o', k a o' e n, n⟩, fun _ _ _ _ m => m, fun _ m => m, fun _ _ _ _ m => m, fun a o' e n _ _ => k a o' e n, rfl, fun _ _ m => m, fun _ _ _ _ m => m⟩
/-- a new list that never changes -/
def Sg.frz (S : Sg) (p : Addr) : Sg := { S with fz := fun a => S.fz a ∨ a = p }
theorem ext_frz {p : Addr} {vs : List V} (np : H p = none) : Ext S H (S.frz p) (upd H p (.lst vs)) :=
  ⟨⟨[], by simp [Sg.frz]⟩, fun a o' e n => ⟨o', by rw [upd_ne (ne_of_none e np)]; exact e, n⟩, fun _ _ _ _ m => m, fun _ m => .inl m, fun a o e _ m => (by
    rcases m with m | rfl
    · exact m
    · rw [np] at e; cases e), fun a o' e _ _ _ => by rw [upd_ne (ne_of_none e np)]; exact e, rfl, fun _ _ m => m, fun _ _ _ _ m => m⟩
/-- a new list of the def's own -/
def Sg.own (S : Sg) (p : Addr) : Sg := { S with as := S.as ++ [p] }
theorem ext_own {p : Addr} {vs : List V} (np : H p = none) : Ext S H (S.own p) (upd H p (.lst vs)) :=
  ⟨⟨[p], rfl⟩, fun a o' e n => ⟨o', by rw [upd_ne (ne_of_none e np)]; exact e, n⟩, fun a o e _ m => (by
    rcases List.mem_append.mp m with m | m
    · exact m
    · have : a = p := by simpa using m
      subst this; rw [np] at e; cases e), fun _ m => m, fun a o e _ m => m, fun a o' e _ _ _ => by rw [upd_ne (ne_of_none e np)]; exact e, rfl, fun _ _ m => m, fun _ _ _ _ m => m⟩
/-- what every extension by new things keeps -/
theorem RelH.mapO (r : RelH K S H h) (x : Ext S H S' H') (hs : ∀ a ∈ S.as, H' a = H a) {n : Nat} {o : Ob} (e : h[n]? = some o) : ∃ a, S'.as[n]? = some a ∧ RO K S' H' o a := by
  obtain ⟨a, e1, q⟩ := r.obj n o e
  obtain ⟨ns, e2⟩ := x.as
  refine ⟨a, by rw [e2, List.getElem?_append_left (List.getElem?_eq_some_iff.mp e1).1]; exact e1, ?_⟩
  cases o with
  | lst ds =>
    obtain ⟨vs, q1, q2⟩ := q
    exact ⟨vs, by rw [hs a (List.mem_of_getElem? e1)]; exact q1, RVs.ext r x ds vs q2⟩
theorem TownOk.keep {t b : Addr} (q : TownOk H t b) (k : ∀ a o, H a = some o → H' a = some o) : TownOk H' t b := by
  obtain ⟨c, rs, h1, h2, h3⟩ := q
  exact ⟨c, rs, k _ _ h1, k _ _ h2, h3⟩
theorem upd_keeps {p : Addr} {o : HO} (np : H p = none) : ∀ a u, H a = some u → upd H p o a = some u := fun a u e => by
  rw [upd_ne (ne_of_none e np)]; exact e
theorem RelH.tabNew (r : RelH K S H h) {p : Addr} {o : HO} (np : H p = none) : LamX.Tabs (tbl K) (upd H p o) := r.tab.ext (upd_keeps np)
/-- more objects, the tables may grow -/
theorem RelH.more (r : RelH K S H h) (k : ∀ a o, H a = some o → NT o → H' a = some o) (ht : LamX.Tabs (tbl K) H') : RelH K S H' h where
  len := r.len
  nd := r.nd
  obj := fun n o' e => r.mapO (ext_more k) (fun a m => by
    obtain ⟨vs, q⟩ := r.inAs m
    rw [q, k a _ q nt_lst]) e
  sep := r.sep
  scr := r.keepS (ext_more k) r.scr
  twn := fun t b e => by
    obtain ⟨c, rs, h1, h2, h3⟩ := r.twn t b e
    exact ⟨c, rs, k _ _ h1 nt_dK, k _ _ h2 nt_dK, h3⟩
  fzs := fun a m => by
    obtain ⟨o, q, n⟩ := r.fzs a m
    exact ⟨o, k a o q n, n⟩
  tab := ht
theorem RelH.new (r : RelH K S H h) {p : Addr} {o : HO} (np : H p = none) : RelH K S (upd H p o) h where
  len := r.len
  nd := r.nd
  obj := fun n o' e => r.mapO (ext_new np) (fun a m => by
    obtain ⟨vs, q⟩ := r.inAs m
    rw [upd_ne (ne_of_none q np)]) e
  sep := r.sep
  scr := r.keepS (ext_new np) r.scr
  twn := fun t b e => (r.twn t b e).keep (upd_keeps np)
  fzs := fun a m => by
    obtain ⟨o, q, n⟩ := r.fzs a m
    exact (ext_new (S := S) np).kp a o q n
  tab := r.tabNew np
theorem RelH.frz (r : RelH K S H h) {p : Addr} {vs : List V} (np : H p = none) : RelH K (S.frz p) (upd H p (.lst vs)) h where
  len := r.len
  nd := r.nd
  obj := fun n o' e => r.mapO (ext_frz np) (fun a m => by
    obtain ⟨vs, q⟩ := r.inAs m
    rw [upd_ne (ne_of_none q np)]) e
  sep := fun a m z => by
    rcases z with z | rfl
    · exact r.sep a m z
    · obtain ⟨vs, q⟩ := r.inAs m
      rw [np] at q; cases q
  scr := r.keepS (ext_frz (vs := vs) np) r.scr
  twn := fun t b e => (r.twn t b e).keep (upd_keeps np)
  fzs := fun a m => by
    rcases m with m | rfl
    · obtain ⟨o, q, n⟩ := r.fzs a m
      exact (ext_new (S := S) np).kp a o q n
    · exact ⟨_, upd_same, nt_lst⟩
  tab := r.tabNew np
theorem RelH.own (r : RelH K S H h) {p : Addr} {ds : List D} {vs : List V} (np : H p = none) (q : RVs K S H ds vs) : RelH K (S.own p) (upd H p (.lst vs)) (h ++ [.lst ds]) where
  len := by simp [Sg.own, r.len]
  nd := by
    refine List.nodup_append.mpr ⟨r.nd, by simp, fun a m b hb => ?_⟩
    have : b = p := by simpa using hb
    subst this
    rintro rfl
    obtain ⟨vs, q⟩ := r.inAs m
    rw [np] at q; cases q
  obj := fun n o e => by
    by_cases hn : n < h.length
    · rw [List.getElem?_append_left hn] at e
      exact r.mapO (ext_own np) (fun a m => by
        obtain ⟨vs, q⟩ := r.inAs m
        rw [upd_ne (ne_of_none q np)]) e
    · have hn2 : n = h.length := by
        have := (List.getElem?_eq_some_iff.mp e).1
        simp at this
        omega
      subst hn2
      rw [List.getElem?_append_right (Nat.le_refl _)] at e
      simp at e
      subst e
      refine ⟨p, ?_, vs, upd_same, RVs.ext r (ext_own np) ds vs q⟩
      show (S.as ++ [p])[h.length]? = some p
      rw [← r.len]
      simp
  sep := fun a m => by
    rcases List.mem_append.mp m with m | m
    · exact r.sep a m
    · have : a = p := by simpa using m
      subst this
      intro z
      obtain ⟨o, q, _⟩ := r.fzs a z
      rw [np] at q; cases q
  scr := r.keepS (ext_own (vs := vs) np) r.scr
  twn := fun t b e => (r.twn t b e).keep (upd_keeps np)
  fzs := fun a m => by
    obtain ⟨o, q, n⟩ := r.fzs a m
    exact (ext_new (S := S) np).kp a o q n
  tab := r.tabNew np
/-- one of the def's own lists is changed -/
theorem ext_write {p : Addr} {o : HO} (m : p ∈ S.as) (no : NT o := by intro _ z; cases z) : Ext S H S (upd H p o) :=
  ⟨⟨[], by simp⟩, fun a o' e n => by
    by_cases hp : a = p
    · subst hp; exact ⟨o, upd_same, no⟩
    · exact ⟨o', by rw [upd_ne hp]; exact e, n⟩, fun _ _ _ _ m => m, fun _ m => m, fun _ _ _ _ m => m, fun a o' e _ h1 _ => by
    rw [upd_ne (fun z => h1 (by rw [z]; exact m))]; exact e, rfl, fun _ _ m => m, fun _ _ _ _ m => m⟩
/-- the tables stay where they and what they name stay -/
theorem tabs_keep {T : List (Addr × Str)} (t : LamX.Tabs T H) (k : ∀ b o, H b = some o → (∃ ps, o = .tbl ps) ∨ (∃ φ, o = .ext φ) → H' b = some o) : LamX.Tabs T H' := fun p hp => by
  obtain ⟨ps, h1, h2, h3⟩ := t p hp
  refine ⟨ps, k _ _ h1 (.inl ⟨_, rfl⟩), h2, fun pos cv hc => ?_⟩
  obtain ⟨c, e1, e2⟩ := h3 pos cv hc
  exact ⟨c, e1, k _ _ e2 (.inr ⟨_, rfl⟩)⟩
theorem tabs_write {T : List (Addr × Str)} {p : Addr} {o o' : HO} (t : LamX.Tabs T H) (e : H p = some o) (n1 : NT o) (n2 : ∀ φ, o ≠ .ext φ) : LamX.Tabs T (upd H p o') := tabs_keep t fun b u eb hu => by
  rw [upd_ne (fun z => ?_)]
  · exact eb
  · rw [z, e] at eb
    have := Option.some.inj eb
    subst this
    rcases hu with ⟨ps, hu⟩ | ⟨φ, hu⟩
    · exact n1 ps hu
    · exact n2 φ hu
theorem RelH.write (r : RelH K S H h) {n : Nat} {p : Addr} {ds : List D} {vs : List V} (e : S.as[n]? = some p) (q : RVs K S H ds vs) : RelH K S (upd H p (.lst vs)) (h.set n (.lst ds)) where
  len := by rw [List.length_set]; exact r.len
  nd := r.nd
  obj := fun m o em => by
    have mp := List.mem_of_getElem? e
    by_cases hm : m = n
    · subst hm
      have hl : m < h.length := by
        have := (List.getElem?_eq_some_iff.mp em).1
        simpa using this
      rw [List.getElem?_set_self hl] at em
      cases em
      exact ⟨p, e, vs, upd_same, RVs.ext r (ext_write mp) ds vs q⟩
    · rw [List.getElem?_set_ne (Ne.symm hm)] at em
      obtain ⟨a, e1, q1⟩ := r.obj m o em
      have ha : a ≠ p := by
        rintro rfl
        exact hm (nodup_ix' r.nd e1 e)
      refine ⟨a, e1, ?_⟩
      cases o with
      | lst xs =>
        obtain ⟨ws, w1, w2⟩ := q1
        exact ⟨ws, by rw [upd_ne ha]; exact w1, RVs.ext r (ext_write mp) xs ws w2⟩
  sep := r.sep
  scr := r.keepS (ext_write (List.mem_of_getElem? e)) r.scr
  twn := fun t b et => by
    have tk : ∀ a, S.twA a → a ≠ p := fun a ma z => by
      subst z
      obtain ⟨kvs, q1⟩ := r.notTw ma
      obtain ⟨ws, q2⟩ := r.inAs (List.mem_of_getElem? e)
      rw [q1] at q2; cases q2
    obtain ⟨c, rs, h1, h2, h3⟩ := r.twn t b et
    exact ⟨c, rs, by rw [upd_ne (tk t ⟨t, b, et, .inl rfl⟩)]; exact h1, by rw [upd_ne (tk b ⟨t, b, et, .inr rfl⟩)]; exact h2, h3⟩
  fzs := fun a m => by
    obtain ⟨o, q, n⟩ := r.fzs a m
    exact (ext_write (o := .lst vs) (List.mem_of_getElem? e)).kp a o q n
  tab := by
    obtain ⟨ws, q2⟩ := r.inAs (List.mem_of_getElem? e)
    exact tabs_write r.tab q2 nt_lst (fun _ z => nomatch z)
where
  nodup_ix' {N : List Addr} (hN : N.Nodup) {i j : Nat} {x : Addr} (a : N[i]? = some x) (b : N[j]? = some x) : i = j := by
    obtain ⟨h1, e1⟩ := List.getElem?_eq_some_iff.mp a
    obtain ⟨h2, e2⟩ := List.getElem?_eq_some_iff.mp b
    exact (List.getElem_inj hN).mp (e1.trans e2.symm)
end

/-! ### lists of values -/
section
variable {K : PySem.W.Frag} {S : Sg} {H : Hp}
theorem RVs.length : ∀ {ds : List D} {vs : List V}, RVs K S H ds vs → vs.length = ds.length
  | [], vs, q => by unfold RVs at q; subst q; rfl
  | d :: ds, vs, q => by
    unfold RVs at q
    obtain ⟨v, t, rfl, _, q⟩ := q
    rw [List.length_cons, List.length_cons, RVs.length q]
theorem RVs.nil : RVs K S H [] [] := by unfold RVs; rfl
theorem RVs.cons {d : D} {ds : List D} {v : V} {vs : List V} (a : RV K S H d v) (b : RVs K S H ds vs) : RVs K S H (d :: ds) (v :: vs) := by unfold RVs; exact ⟨v, vs, rfl, a, b⟩
theorem RVs.nil_iff {vs : List V} (q : RVs K S H [] vs) : vs = [] := by unfold RVs at q; exact q
theorem RVs.of_cons {d : D} {ds : List D} {vs : List V} (q : RVs K S H (d :: ds) vs) : ∃ v r, vs = v :: r ∧ RV K S H d v ∧ RVs K S H ds r := by unfold RVs at q; exact q
theorem RVs.append : ∀ {ds es : List D} {vs ws : List V}, RVs K S H ds vs → RVs K S H es ws → RVs K S H (ds ++ es) (vs ++ ws)
  | [], es, vs, ws, q, r => by rw [q.nil_iff]; exact r
  | d :: ds, es, vs, ws, q, r => by
    obtain ⟨v, t, rfl, q1, q2⟩ := q.of_cons
    exact .cons q1 (RVs.append q2 r)
theorem RVs.take : ∀ (n : Nat) {ds : List D} {vs : List V}, RVs K S H ds vs → RVs K S H (ds.take n) (vs.take n)
  | 0, ds, vs, _ => by rw [List.take_zero, List.take_zero]; exact .nil
  | n + 1, [], vs, q => by rw [q.nil_iff]; exact .nil
  | n + 1, d :: ds, vs, q => by
    obtain ⟨v, t, rfl, q1, q2⟩ := q.of_cons
    exact .cons q1 (RVs.take n q2)
theorem RVs.drop : ∀ (n : Nat) {ds : List D} {vs : List V}, RVs K S H ds vs → RVs K S H (ds.drop n) (vs.drop n)
  | 0, ds, vs, q => q
  | n + 1, [], vs, q => by rw [q.nil_iff]; exact .nil
  | n + 1, d :: ds, vs, q => by
    obtain ⟨v, t, rfl, q1, q2⟩ := q.of_cons
    exact RVs.drop n q2
theorem RVs.get : ∀ {ds : List D} {vs : List V} {i : Nat} {d : D}, RVs K S H ds vs → ds[i]? = some d → ∃ v, vs[i]? = some v ∧ RV K S H d v
  | [], vs, i, d, q, e => by simp at e
  | d :: ds, vs, 0, d', q, e => by
    obtain ⟨v, t, rfl, q1, q2⟩ := q.of_cons
    simp at e; subst e
    exact ⟨v, rfl, q1⟩
  | d :: ds, vs, i + 1, d', q, e => by
    obtain ⟨v, t, rfl, q1, q2⟩ := q.of_cons
    obtain ⟨w, e1, r⟩ := RVs.get (i := i) (d := d') q2 (by simpa using e)
    exact ⟨w, by simpa using e1, r⟩
theorem RVs.get' : ∀ {ds : List D} {vs : List V} {i : Nat} {v : V}, RVs K S H ds vs → vs[i]? = some v → ∃ d, ds[i]? = some d ∧ RV K S H d v
  | [], vs, i, d, q, e => by rw [q.nil_iff] at e; simp at e
  | d :: ds, vs, 0, d', q, e => by
    obtain ⟨v, t, rfl, q1, q2⟩ := q.of_cons
    simp at e; subst e
    exact ⟨d, rfl, q1⟩
  | d :: ds, vs, i + 1, d', q, e => by
    obtain ⟨v, t, rfl, q1, q2⟩ := q.of_cons
    obtain ⟨w, e1, r⟩ := RVs.get' (i := i) (v := d') q2 (by simpa using e)
    exact ⟨w, by simpa using e1, r⟩
theorem RVs.set : ∀ {ds : List D} {vs : List V} (i : Nat) {d : D} {v : V}, RVs K S H ds vs → RV K S H d v → RVs K S H (ds.set i d) (vs.set i v)
  | [], vs, i, d, v, q, _ => by rw [q.nil_iff]; exact .nil
  | d :: ds, vs, 0, d', v', q, r => by
    obtain ⟨v, t, rfl, q1, q2⟩ := q.of_cons
    exact .cons r q2
  | d :: ds, vs, i + 1, d', v', q, r => by
    obtain ⟨v, t, rfl, q1, q2⟩ := q.of_cons
    exact .cons q1 (RVs.set i q2 r)
theorem RVs.rep {ds : List D} {vs : List V} (q : RVs K S H ds vs) : ∀ n : Nat, RVs K S H (repD n ds) (repD n vs)
  | 0 => .nil
  | n + 1 => by
    show RVs K S H (List.replicate (n + 1) ds).flatten (List.replicate (n + 1) vs).flatten
    rw [List.replicate_succ, List.replicate_succ, List.flatten_cons, List.flatten_cons]
    exact q.append (RVs.rep q n)
/-- a list that is read -/
theorem RW.view {h : Hq} (r : RelH K S H h) : ∀ {x : Vv} {v : V} {d : D}, RW K S H x v → rdV h x = some d → RV K S H d v ∨ ∃ ds a vs, d = .lst ds ∧ v = .ref a ∧ H a = some (.lst vs) ∧ RVs K S H ds vs
  | .d x, v, d, q, e => by
    have : x = d := Option.some.inj e
    subst this
    exact .inl q
  | .r n, v, d, q, e => by
    obtain ⟨a, ea, rfl⟩ := q
    simp only [rdV] at e
    split at e
    · rename_i xs hx
      have : D.lst xs = d := Option.some.inj e
      subst this
      obtain ⟨b, eb, vs, hv, q⟩ := r.obj n _ hx
      rw [ea] at eb; cases eb
      exact .inr ⟨xs, a, vs, rfl, rfl, hv, q⟩
    · cases e
/-- .. a list, whichever -/
theorem RW.lst {h : Hq} (r : RelH K S H h) {x : Vv} {v : V} {ds : List D} (q : RW K S H x v) (e : rdV h x = some (.lst ds)) : ∃ a vs, v = .ref a ∧ H a = some (.lst vs) ∧ RVs K S H ds vs := by
  rcases q.view r e with q | ⟨ds', a, vs, e1, e2, e3, q⟩
  · unfold RV at q
    obtain ⟨a, vs, e1, e2, _, q⟩ := q
    exact ⟨a, vs, e1, e2, q⟩
  · cases e1
    exact ⟨a, vs, e2, e3, q⟩
/-- .. anything else -/
theorem RW.dat {h : Hq} (r : RelH K S H h) {x : Vv} {v : V} {d : D} (q : RW K S H x v) (e : rdV h x = some d) (n : ∀ ds, d ≠ .lst ds) : RV K S H d v := by
  rcases q.view r e with q | ⟨ds', a, vs, e1, e2, e3, q⟩
  · exact q
  · exact absurd e1 (n ds')
end
end Bk
/-! BkC: operators and built-ins, by data. -/
namespace Bk
open PySem PySem.Spec PyProof.Rows L2

theorem lim_le : lim ≤ sizeLine := by rw [sizeLine_eq]; decide
/-- a value is handed on -/
def Dl (K : PySem.W.Frag) (S : Sg) (H : Hp) (h : Hq) (z : D) (Q : VK) : Prop := ∀ S' v H', Ext S H S' H' → RelH K S' H' h → RV K S' H' z v → Q v H'
section
variable {K : PySem.W.Frag} {S : Sg} {H : Hp} {h : Hq} {Q : VK}
theorem Dl.here {z : D} {v : V} (d : Dl K S H h z Q) (r : RelH K S H h) (q : RV K S H z v) : Q v H := d S v H (Ext.refl S H) r q
theorem Dl.tup {ds : List D} {vs : List V} (d : Dl K S H h (.tup ds) Q) (r : RelH K S H h) (q : RVs K S H ds vs) : ∀ p, H p = none → Q (.ref p) (upd H p (.tup vs)) := fun p np =>
  d S (.ref p) _ (ext_new np) (r.new np) (by unfold RV; exact ⟨p, vs, rfl, .inl (.inl upd_same), RVs.ext r (ext_new np) ds vs q⟩)
theorem Dl.lst {ds : List D} {vs : List V} (d : Dl K S H h (.lst ds) Q) (r : RelH K S H h) (q : RVs K S H ds vs) : ∀ p, H p = none → Q (.ref p) (upd H p (.lst vs)) := fun p np =>
  d (S.frz p) (.ref p) _ (ext_frz np) (r.frz np) (by unfold RV; exact ⟨p, vs, rfl, upd_same, .inr rfl, RVs.ext r (ext_frz np) ds vs q⟩)
theorem Dl.int {i : Int} (d : Dl K S H h (.int i) Q) (r : RelH K S H h) : Q (.int i) H := d.here r (by unfold RV; rfl)
theorem Dl.bl {i : Bool} (d : Dl K S H h (.bl i) Q) (r : RelH K S H h) : Q (.bl i) H := d.here r (by unfold RV; rfl)
theorem Dl.str {s : List Nat} {z : Str} (d : Dl K S H h (.str s) Q) (r : RelH K S H h) (e : z = ⟨s.toArray⟩) : Q (.str z) H := d.here r (by unfold RV; rw [e])
theorem Dl.tupAt {ds : List D} {vs : List V} {a : Addr} (d : Dl K S H h (.tup ds) Q) (r : RelH K S H h) (t : SqT K H a vs) (q : RVs K S H ds vs) : Q (.ref a) H := d.here r (by unfold RV; exact ⟨a, vs, rfl, t, q⟩)

theorem RW.int {a : Vv} {x : V} {i : Int} (r : RelH K S H h) (q : RW K S H a x) (e : rdV h a = some (.int i)) : x = .int i := by
  have := q.dat r e (fun _ z => nomatch z)
  unfold RV at this; exact this
theorem RW.bl {a : Vv} {x : V} {i : Bool} (r : RelH K S H h) (q : RW K S H a x) (e : rdV h a = some (.bl i)) : x = .bl i := by
  have := q.dat r e (fun _ z => nomatch z)
  unfold RV at this; exact this
theorem RW.non {a : Vv} {x : V} (r : RelH K S H h) (q : RW K S H a x) (e : rdV h a = some .non) : x = .non := by
  have := q.dat r e (fun _ z => nomatch z)
  unfold RV at this; exact this
theorem RW.str {a : Vv} {x : V} {i : List Nat} (r : RelH K S H h) (q : RW K S H a x) (e : rdV h a = some (.str i)) : x = .str ⟨i.toArray⟩ := by
  have := q.dat r e (fun _ z => nomatch z)
  unfold RV at this; exact this
theorem RW.tup {a : Vv} {x : V} {ds : List D} (r : RelH K S H h) (q : RW K S H a x) (e : rdV h a = some (.tup ds)) : ∃ p vs, x = .ref p ∧ SqT K H p vs ∧ RVs K S H ds vs := by
  have := q.dat r e (fun _ z => nomatch z)
  unfold RV at this; exact this

/-- an operator of two values -/
def rOp (K : PySem.W.Frag) (f : D → D → Option D) : R2 := fun x y H Q => ∃ S h a b p q z, RelH K S H h ∧ RW K S H a x ∧ RW K S H b y ∧ rdV h a = some p ∧ rdV h b = some q ∧ f p q = some z ∧ Dl K S H h z Q
end

section
variable {X : Cx}
theorem opR_add : OpR X (binaryOp .Add) (rOp X.K addD) := by
  intro pins s σ H x y v u Q I rx ry h
  obtain ⟨S, h, a, b, p, q, z, r, ra, rb, ea, eb, hz, dl⟩ := h
  unfold addD at hz
  split at hz
  · cases hz
    exact op_add pins s σ H x y v u Q I rx ry ⟨_, _, ra.int r ea, rb.int r eb, dl.int r⟩
  · split at hz
    · rename_i hl
      cases hz
      refine op_add_str pins s σ H x y v u Q I rx ry ⟨_, _, ra.str r ea, rb.str r eb, ?_, dl.str r ?_⟩
      · exact Nat.le_trans (by simpa [Str.length] using hl) lim_le
      · show Str.mk _ = _
        simp
    · cases hz
  · split at hz
    · rename_i hl
      cases hz
      obtain ⟨p1, vs, rfl, t1, q1⟩ := ra.tup r ea
      obtain ⟨p2, ws, rfl, t2, q2⟩ := rb.tup r eb
      refine op_catA pins s σ H _ _ v u Q I rx ry ⟨p1, p2, vs, ws, rfl, rfl, t1, t2, ?_, fun e => ?_, fun _ e => ?_, fun _ _ => dl.tup r (q1.append q2)⟩
      · rw [q1.length, q2.length]; exact Nat.le_trans hl lim_le
      · have := q1.append q2
        rw [e] at this
        exact dl.tupAt r t2 this
      · have := q1.append q2
        rw [e, List.append_nil] at this
        exact dl.tupAt r t1 this
    · cases hz
  · split at hz
    · rename_i hl
      cases hz
      obtain ⟨p1, vs, rfl, t1, q1⟩ := ra.lst r ea
      obtain ⟨p2, ws, rfl, t2, q2⟩ := rb.lst r eb
      refine op_cat pins s σ H _ _ v u Q I rx ry ⟨p1, p2, vs, ws, rfl, rfl, t1, t2, ?_, dl.lst r (q1.append q2)⟩
      rw [q1.length, q2.length]; exact Nat.le_trans hl lim_le
    · cases hz
  · cases hz
theorem opR_sub : OpR X (binaryOp .Sub) (rOp X.K subiD) := by
  intro pins s σ H x y v u Q I rx ry h
  obtain ⟨S, h, a, b, p, q, z, r, ra, rb, ea, eb, hz, dl⟩ := h
  unfold subiD at hz
  split at hz
  · cases hz
    exact op_sub pins s σ H x y v u Q I rx ry ⟨_, _, ra.int r ea, rb.int r eb, dl.int r⟩
  · cases hz
theorem flat_rep (n : Nat) (s : List Nat) : (List.replicate n s.toArray).foldl (· ++ ·) #[] = (repD n s).toArray := by
  have gen : ∀ (n : Nat) (acc : List Nat), (List.replicate n s.toArray).foldl (· ++ ·) acc.toArray = (acc ++ repD n s).toArray := by
    intro n
    induction n with
    | zero => intro acc; simp [repD]
    | succ n ih =>
      intro acc
      rw [List.replicate_succ, List.foldl_cons]
      have e : acc.toArray ++ s.toArray = (acc ++ s).toArray := by simp
      rw [e, ih]
      simp [repD, List.replicate_succ]
  have := gen n []
  simpa using this
theorem op_mulS : OpR X (binaryOp .Mult) (fun x y H Q => ∃ (s : List Nat) (k : Int), x = .str ⟨s.toArray⟩ ∧ y = .int k ∧ 0 ≤ k ∧ k ≤ 1000 ∧ s.length ≤ 1000 ∧ Q (.str ⟨(repD k.toNat s).toArray⟩) H) := by
  intro pins st σ H x y v u Q I rx ry h
  obtain ⟨s, k, rfl, rfl, h1, h2, h3, q⟩ := h
  obtain ⟨t, rfl⟩ := rx
  obtain ⟨t', rfl⟩ := ry
  have hln : (Str.mk s.toArray).length = s.length := by simp [Str.length]
  have hsm : s.length * k.toNat ≤ 1000 * 1000 := Nat.mul_le_mul h3 (by omega)
  refine PySem.P.mul_str ?_ ?_ ?_ ?_
  · rw [decide_eq_false (by omega), decide_eq_false (by omega)]; rfl
  · intro a b
    rw [hln]
    have hk : 0 < k := by omega
    have : (1000 : Int) ≤ (2 ^ 63 - 1) / k := by
      rw [Int.le_ediv_iff_mul_le hk]
      omega
    omega
  · intro a b
    rw [hln]
    unfold Builtin.Str.tooLong
    exact decide_eq_false (by rw [sizeLine_eq]; omega)
  · have fin : ∀ {z : Str} {tk : Tok} {n : Nat}, z = ⟨(repD k.toNat s).toArray⟩ → EP X pins σ Q (.str z tk) { st with toks := n } := fun {z tk n} e => ⟨.str ⟨(repD k.toNat s).toArray⟩, H, I.tok _, ⟨tk, by rw [e]⟩, q⟩
    by_cases c1 : k < 1
    · rw [if_pos c1]
      have e0 : k = 0 := by omega
      subst e0
      exact ⟨by decide, fin rfl⟩
    · rw [if_neg c1]
      by_cases c2 : (k == 1 || (Str.mk s.toArray).length == 0) = true
      · rw [if_pos c2]
        refine (show EP X pins σ Q (.str ⟨s.toArray⟩ t) st from ?_)
        refine ⟨.str ⟨(repD k.toNat s).toArray⟩, H, I, ⟨t, ?_⟩, q⟩
        congr 2
        rcases Bool.or_eq_true_iff.mp c2 with c | c
        · have : k = 1 := by simpa using c
          subst this
          simp [repD]
        · rw [hln] at c
          have : s = [] := by simpa using c
          subst this
          have : ∀ n : Nat, repD n ([] : List Nat) = [] := fun n => by simp [repD]
          rw [this]
      · rw [if_neg c2]
        refine ⟨?_, fin ?_⟩
        · show (Str.mk _).length ≤ sizeLine
          rw [flat_rep]
          have e : (repD k.toNat s).length = k.toNat * s.length := by simp [repD]
          simp only [Str.length, List.size_toArray, e]
          rw [sizeLine_eq, Nat.mul_comm]; omega
        · rw [flat_rep]
theorem opR_mul : OpR X (binaryOp .Mult) (rOp X.K mulD) := by
  intro pins s σ H x y v u Q I rx ry h
  obtain ⟨S, h, a, b, p, q, z, r, ra, rb, ea, eb, hz, dl⟩ := h
  unfold mulD at hz
  split at hz
  · split at hz
    · rename_i hl
      cases hz
      exact op_mul pins s σ H x y v u Q I rx ry ⟨_, _, ra.int r ea, rb.int r eb, .inl ⟨by omega, by omega⟩, dl.int r⟩
    · cases hz
  · split at hz
    · rename_i hl
      cases hz
      exact op_mulS pins s σ H x y v u Q I rx ry ⟨_, _, ra.str r ea, rb.int r eb, hl.1, hl.2.1, hl.2.2, dl.str r rfl⟩
    · cases hz
  · split at hz
    · rename_i hl
      cases hz
      obtain ⟨p1, vs, rfl, t1, q1⟩ := ra.tup r ea
      refine op_repT pins s σ H _ y v u Q I rx ry ⟨p1, _, vs, rfl, rb.int r eb, t1, ?_, hl.1, hl.2.1, ?_, dl.tup r (q1.rep _)⟩
      · intro e
        have := q1.length
        rw [e] at this
        have h4 := hl.2.2.2
        cases hs : (‹List D›) with
        | nil => rw [hs] at h4; simp at h4
        | cons _ _ => rw [hs] at this; simp at this
      · rw [q1.length]; exact hl.2.2.1
    · cases hz
  · split at hz
    · rename_i hl
      cases hz
      obtain ⟨p1, vs, rfl, t1, q1⟩ := ra.lst r ea
      refine op_rep pins s σ H _ y v u Q I rx ry ⟨p1, _, vs, rfl, rb.int r eb, t1, by omega, by omega, ?_, dl.lst r (q1.rep _)⟩
      rw [q1.length]
      refine Nat.le_trans (Nat.mul_le_mul hl.2.2 (show _ ≤ 1000 by omega)) ?_
      rw [sizeLine_eq]; omega
    · cases hz
  · cases hz
theorem opR_fdiv : OpR X (binaryOp .FloorDiv) (rOp X.K fdivD) := by
  intro pins s σ H x y v u Q I rx ry h
  obtain ⟨S, h, a, b, p, q, z, r, ra, rb, ea, eb, hz, dl⟩ := h
  unfold fdivD at hz
  split at hz
  · split at hz
    · rename_i hl
      cases hz
      exact op_fdiv pins s σ H x y v u Q I rx ry ⟨_, _, ra.int r ea, rb.int r eb, ⟨hl.1, by omega⟩, dl.int r⟩
    · cases hz
  · cases hz
theorem opR_mod : OpR X (binaryOp .Mod) (rOp X.K modD) := by
  intro pins s σ H x y v u Q I rx ry h
  obtain ⟨S, h, a, b, p, q, z, r, ra, rb, ea, eb, hz, dl⟩ := h
  unfold modD at hz
  split at hz
  · split at hz
    · rename_i hl
      cases hz
      exact op_mod pins s σ H x y v u Q I rx ry ⟨_, _, ra.int r ea, rb.int r eb, hl, dl.int r⟩
    · cases hz
  · cases hz
theorem opR_pow : OpR X (binaryOp .Pow) (rOp X.K powD) := by
  intro pins s σ H x y v u Q I rx ry h
  obtain ⟨S, h, a, b, p, q, z, r, ra, rb, ea, eb, hz, dl⟩ := h
  unfold powD at hz
  split at hz
  · split at hz
    · rename_i hl
      cases hz
      exact op_pow pins s σ H x y v u Q I rx ry ⟨_, _, ra.int r ea, rb.int r eb, ⟨hl.1, by omega, by omega⟩, dl.int r⟩
    · cases hz
  · cases hz

/-! ### comparisons -/
end
mutual
def toPy : D → PyData
  | .non => .none
  | .bl b => .bool b
  | .int i => .int i
  | .str s => .str ⟨s.toArray⟩
  | .tup xs => .tuple (toPys xs)
  | .lst xs => .list (toPys xs)
  | .opq _ => .none
def toPys : List D → List PyData
  | [] => []
  | x :: xs => toPy x :: toPys xs
end
mutual
theorem toPy_eqv : ∀ (n m : Nat) (x y : D), D.shp n x = true → D.shp m y = true → PyData.eqv (toPy x) (toPy y) = D.beq x y
  | n, m, .opq _, y, h, _ => by cases n <;> simp [D.shp] at h
  | n, m, x, .opq _, _, h => by cases m <;> simp [D.shp] at h
  | n, m, .non, .non, _, _ => by simp [toPy, PyData.eqv, D.beq]
  | n, m, .non, .bl _, _, _ => by simp [toPy, PyData.eqv, D.beq]
  | n, m, .non, .int _, _, _ => by simp [toPy, PyData.eqv, D.beq]
  | n, m, .non, .str _, _, _ => by simp [toPy, PyData.eqv, D.beq]
  | n, m, .non, .tup _, _, _ => by simp [toPy, PyData.eqv, D.beq]
  | n, m, .non, .lst _, _, _ => by simp [toPy, PyData.eqv, D.beq]
  | n, m, .bl _, .non, _, _ => by simp [toPy, PyData.eqv, D.beq]
  | n, m, .bl _, .bl _, _, _ => by simp [toPy, PyData.eqv, D.beq]
  | n, m, .bl _, .int _, _, _ => by simp [toPy, PyData.eqv, D.beq]
  | n, m, .bl _, .str _, _, _ => by simp [toPy, PyData.eqv, D.beq]
  | n, m, .bl _, .tup _, _, _ => by simp [toPy, PyData.eqv, D.beq]
  | n, m, .bl _, .lst _, _, _ => by simp [toPy, PyData.eqv, D.beq]
  | n, m, .int _, .non, _, _ => by simp [toPy, PyData.eqv, D.beq]
  | n, m, .int _, .bl _, _, _ => by simp [toPy, PyData.eqv, D.beq]
  | n, m, .int _, .int _, _, _ => by simp [toPy, PyData.eqv, D.beq]
  | n, m, .int _, .str _, _, _ => by simp [toPy, PyData.eqv, D.beq]
  | n, m, .int _, .tup _, _, _ => by simp [toPy, PyData.eqv, D.beq]
  | n, m, .int _, .lst _, _, _ => by simp [toPy, PyData.eqv, D.beq]
  | n, m, .str _, .non, _, _ => by simp [toPy, PyData.eqv, D.beq]
  | n, m, .str _, .bl _, _, _ => by simp [toPy, PyData.eqv, D.beq]
  | n, m, .str _, .int _, _, _ => by simp [toPy, PyData.eqv, D.beq]
  | n, m, .str s, .str t, _, _ => by
    simp only [toPy, PyData.eqv, D.beq]
    by_cases e : s = t
    · subst e; simp
    · rw [beq_eq_false_iff_ne.mpr e, beq_eq_false_iff_ne.mpr (fun z => e (by simpa using z))]
  | n, m, .str _, .tup _, _, _ => by simp [toPy, PyData.eqv, D.beq]
  | n, m, .str _, .lst _, _, _ => by simp [toPy, PyData.eqv, D.beq]
  | n, m, .tup _, .non, _, _ => by simp [toPy, PyData.eqv, D.beq]
  | n, m, .tup _, .bl _, _, _ => by simp [toPy, PyData.eqv, D.beq]
  | n, m, .tup _, .int _, _, _ => by simp [toPy, PyData.eqv, D.beq]
  | n, m, .tup _, .str _, _, _ => by simp [toPy, PyData.eqv, D.beq]
  | n + 1, m + 1, .tup xs, .tup ys, h1, h2 => by
    simp only [toPy, PyData.eqv, D.beq]
    simp only [D.shp] at h1 h2
    exact toPys_eqv n m xs ys h1 h2
  | 0, _, .tup _, _, h, _ => by simp [D.shp] at h
  | _, 0, _, .tup _, _, h => by simp [D.shp] at h
  | n, m, .tup _, .lst _, _, _ => by simp [toPy, PyData.eqv, D.beq]
  | n, m, .lst _, .non, _, _ => by simp [toPy, PyData.eqv, D.beq]
  | n, m, .lst _, .bl _, _, _ => by simp [toPy, PyData.eqv, D.beq]
  | n, m, .lst _, .int _, _, _ => by simp [toPy, PyData.eqv, D.beq]
  | n, m, .lst _, .str _, _, _ => by simp [toPy, PyData.eqv, D.beq]
  | n, m, .lst _, .tup _, _, _ => by simp [toPy, PyData.eqv, D.beq]
  | n + 1, m + 1, .lst xs, .lst ys, h1, h2 => by
    simp only [toPy, PyData.eqv, D.beq]
    simp only [D.shp] at h1 h2
    exact toPys_eqv n m xs ys h1 h2
  | 0, _, .lst _, _, h, _ => by simp [D.shp] at h
  | _, 0, _, .lst _, _, h => by simp [D.shp] at h
theorem toPys_eqv : ∀ (n m : Nat) (xs ys : List D), D.shps n xs = true → D.shps m ys = true → PyData.eqvAll (toPys xs) (toPys ys) = D.beqs xs ys
  | n, m, [], [], _, _ => by simp [toPys, PyData.eqvAll, D.beqs]
  | n, m, x :: xs, [], _, _ => by simp [toPys, PyData.eqvAll, D.beqs]
  | n, m, [], y :: ys, _, _ => by simp [toPys, PyData.eqvAll, D.beqs]
  | n, m, x :: xs, y :: ys, h1, h2 => by
    simp only [D.shps, Bool.and_eq_true] at h1 h2
    simp only [toPys, PyData.eqvAll, D.beqs]
    rw [toPy_eqv n m x y h1.1 h2.1, toPys_eqv n m xs ys h1.2 h2.2]
end
theorem asc_ok {s : List Nat} (h : asc s = true) : PyData.strOk ⟨s.toArray⟩ = true := by
  unfold PyData.strOk
  unfold asc at h
  simp only [List.all_eq_true] at h
  simp only [List.all_toArray, List.all_eq_true, decide_eq_true_eq]
  intro c hc
  have := h c hc
  have h2 : c < 128 := by simpa [Nat.blt_eq] using this
  omega
mutual
theorem shp_lay : ∀ (n : Nat) (x : D), D.shp n x = true → PyData.canLay0 (toPy x) = true ∧ (toPy x).depth ≤ n
  | n, .non, _ => by simp [toPy, PyData.canLay0, PyData.depth]
  | n, .bl _, _ => by simp [toPy, PyData.canLay0, PyData.depth]
  | n, .int _, _ => by simp [toPy, PyData.canLay0, PyData.depth]
  | n, .str s, h => by
    simp only [D.shp] at h
    simp only [toPy, PyData.canLay0, PyData.depth]
    exact ⟨asc_ok h, Nat.zero_le _⟩
  | n + 1, .tup xs, h => by
    simp only [D.shp] at h
    simp only [toPy, PyData.canLay0, PyData.depth]
    obtain ⟨a, b⟩ := shps_lay n xs h
    exact ⟨a, by omega⟩
  | n + 1, .lst xs, h => by
    simp only [D.shp] at h
    simp only [toPy, PyData.canLay0, PyData.depth]
    obtain ⟨a, b⟩ := shps_lay n xs h
    exact ⟨a, by omega⟩
  | 0, .tup xs, h => by simp [D.shp] at h
  | 0, .lst xs, h => by simp [D.shp] at h
  | n, .opq _, h => by cases n <;> simp [D.shp] at h
theorem shps_lay : ∀ (n : Nat) (xs : List D), D.shps n xs = true → PyData.canLayAll0 (toPys xs) = true ∧ PyData.depthAll (toPys xs) ≤ n
  | n, [], _ => by simp [toPys, PyData.canLayAll0, PyData.depthAll]
  | n, x :: xs, h => by
    simp only [D.shps, Bool.and_eq_true] at h
    obtain ⟨a, b⟩ := shp_lay n x h.1
    obtain ⟨c, d⟩ := shps_lay n xs h.2
    simp only [toPys, PyData.canLayAll0, PyData.depthAll, a, c, Bool.and_self, true_and]
    exact Nat.max_le.mpr ⟨b, d⟩
end
theorem shp_shaped {x : D} (h : D.shp 60 x = true) : SeqAt.shaped (toPy x) = true := by
  obtain ⟨a, b⟩ := shp_lay 60 x h
  unfold SeqAt.shaped
  rw [a, Bool.true_and]
  exact decide_eq_true (by omega)
section
variable {K : PySem.W.Frag} {S : Sg} {H : Hp} {h : Hq}
mutual
theorem RV.dp : ∀ (n : Nat) (d : D) (v : V), D.shp n d = true → RV K S H d v → Dp K H v (toPy d)
  | n, .non, v, _, q => by unfold RV at q; subst q; exact .non
  | n, .bl b, v, _, q => by unfold RV at q; subst q; exact .bl b
  | n, .int i, v, _, q => by unfold RV at q; subst q; exact .int i
  | n, .str s, v, _, q => by unfold RV at q; subst q; exact .str _
  | n + 1, .tup xs, v, hs, q => by
    unfold RV at q
    obtain ⟨a, vs, rfl, t, q⟩ := q
    simp only [D.shp] at hs
    exact .tup t (RVs.dp n xs vs hs q)
  | n + 1, .lst xs, v, hs, q => by
    unfold RV at q
    obtain ⟨a, vs, rfl, t, _, q⟩ := q
    simp only [D.shp] at hs
    exact .lst (SqL.of t) (RVs.dp n xs vs hs q)
  | 0, .tup xs, v, h, _ => by simp [D.shp] at h
  | 0, .lst xs, v, h, _ => by simp [D.shp] at h
  | n, .opq _, v, h, _ => by cases n <;> simp [D.shp] at h
theorem RVs.dp : ∀ (n : Nat) (ds : List D) (vs : List V), D.shps n ds = true → RVs K S H ds vs → DpAll K H vs (toPys ds)
  | n, [], vs, _, q => by rw [q.nil_iff]; exact .nil
  | n, d :: ds, vs, h, q => by
    simp only [D.shps, Bool.and_eq_true] at h
    obtain ⟨v, t, rfl, q1, q2⟩ := q.of_cons
    exact .cons (RV.dp n d v h.1 q1) (RVs.dp n ds t h.2 q2)
end
theorem RW.dp {a : Vv} {x : V} {d : D} (r : RelH K S H h) (q : RW K S H a x) (e : rdV h a = some d) (hs : D.shp 60 d = true) : Dp K H x (toPy d) := by
  rcases q.view r e with q | ⟨ds, p, vs, rfl, rfl, e3, q⟩
  · exact RV.dp 60 d x hs q
  · simp only [D.shp] at hs
    exact .lst (SqL.of e3) (RVs.dp 59 ds vs hs q)
theorem flatV_of {d : D} {v : V} (hf : d.isFlat = true) (q : RV K S H d v) : flatV v = true := by
  cases d <;> first | (simp [D.isFlat] at hf; done) | (unfold RV at q; subst q; rfl)
theorem eqV_of {d e : D} {v w : V} (hd : d.isFlat = true) (he : e.isFlat = true) (q : RV K S H d v) (r : RV K S H e w) : eqV v w = D.beq d e := by
  cases d <;> cases e <;> first
    | (simp [D.isFlat] at hd; done)
    | (simp [D.isFlat] at he; done)
    | (unfold RV at q r; subst q; subst r; simp [eqV, D.beq]; done)
    | (unfold RV at q r; subst q; subst r; simp only [eqV, D.beq]; rename_i s t; by_cases e : s = t; (subst e; simp); (rw [beq_eq_false_iff_ne.mpr e, beq_eq_false_iff_ne.mpr (fun z => e (by simpa using z))]))
theorem flatVs_of : ∀ {ds : List D} {vs : List V}, ds.all D.isFlat = true → RVs K S H ds vs → vs.all flatV = true
  | [], vs, _, q => by rw [q.nil_iff]; rfl
  | d :: ds, vs, hf, q => by
    obtain ⟨v, t, rfl, q1, q2⟩ := q.of_cons
    rw [List.all_cons, Bool.and_eq_true] at hf
    rw [List.all_cons, flatV_of hf.1 q1, flatVs_of hf.2 q2]; rfl
theorem inV_of {x : D} {y : V} (hx : x.isFlat = true) (q0 : RV K S H x y) : ∀ {ds : List D} {vs : List V}, ds.all D.isFlat = true → RVs K S H ds vs → inV y vs = inD x ds
  | [], vs, _, q => by rw [q.nil_iff]; rfl
  | d :: ds, vs, hf, q => by
    obtain ⟨v, t, rfl, q1, q2⟩ := q.of_cons
    rw [List.all_cons, Bool.and_eq_true] at hf
    have ih := inV_of hx q0 hf.2 q2
    unfold inV inD at ih ⊢
    rw [List.any_cons, List.any_cons, eqV_of hf.1 hx q1 q0, ih]
end
theorem ltS_eq : ∀ (s t : List Nat), decide (s < t) = ltS s t
  | [], [] => by simp [ltS]
  | a :: s, [] => by simp [ltS]
  | [], b :: t => by simp [ltS]
  | a :: s, b :: t => by
    unfold ltS
    have ih := ltS_eq s t
    by_cases h1 : a < b
    · rw [if_pos h1]
      exact decide_eq_true (List.cons_lt_cons_iff.mpr (.inl h1))
    · rw [if_neg h1]
      by_cases h2 : a = b
      · subst h2
        simp only [beq_self_eq_true, if_true]
        rw [← ih]
        by_cases h3 : s < t
        · rw [decide_eq_true h3]
          exact decide_eq_true (List.cons_lt_cons_iff.mpr (.inr ⟨rfl, h3⟩))
        · rw [decide_eq_false h3]
          refine decide_eq_false (fun z => ?_)
          rcases List.cons_lt_cons_iff.mp z with z | ⟨_, z⟩
          · exact h1 z
          · exact h3 z
      · rw [if_neg (by simpa using h2)]
        refine decide_eq_false (fun z => ?_)
        rcases List.cons_lt_cons_iff.mp z with z | ⟨z, _⟩
        · exact h1 z
        · exact h2 z
section
variable {X : Cx}
abbrev rCmp (K : PySem.W.Frag) (f : D → D → Option Bool) : R2 := rOp K fun x y => (f x y).map .bl
theorem opR_eq (hu : X.A.units + 64 < cLine) : OpR X (compareOp .Eq) (rCmp X.K eqD) := by
  intro pins s σ H x y v u Q I rx ry h
  obtain ⟨S, h, a, b, p, q, z, r, ra, rb, ea, eb, hz, dl⟩ := h
  simp only [eqD] at hz
  split at hz
  · rename_i hs
    rw [Bool.and_eq_true] at hs
    cases hz
    refine op_eqD hu pins s σ H x y v u Q I rx ry ⟨_, _, ra.dp r ea hs.1, rb.dp r eb hs.2, shp_shaped hs.1, shp_shaped hs.2, ?_⟩
    rw [toPy_eqv 60 60 p q hs.1 hs.2]
    exact dl.bl r
  · cases hz
theorem opR_ne (hu : X.A.units + 64 < cLine) : OpR X (compareOp .NotEq) (rCmp X.K fun x y => (eqD x y).map (!·)) := by
  intro pins s σ H x y v u Q I rx ry h
  obtain ⟨S, h, a, b, p, q, z, r, ra, rb, ea, eb, hz, dl⟩ := h
  simp only [eqD] at hz
  split at hz
  · rename_i hs
    rw [Bool.and_eq_true] at hs
    cases hz
    refine op_neD hu pins s σ H x y v u Q I rx ry ⟨_, _, ra.dp r ea hs.1, rb.dp r eb hs.2, shp_shaped hs.1, shp_shaped hs.2, ?_⟩
    rw [toPy_eqv 60 60 p q hs.1 hs.2]
    exact dl.bl r
  · cases hz
theorem opR_lt : OpR X (compareOp .Lt) (rCmp X.K ltD) := by
  intro pins s σ H x y v u Q I rx ry h
  obtain ⟨S, h, a, b, p, q, z, r, ra, rb, ea, eb, hz, dl⟩ := h
  simp only [ltD] at hz
  split at hz
  · cases hz
    exact op_lt pins s σ H x y v u Q I rx ry ⟨_, _, ra.int r ea, rb.int r eb, dl.bl r⟩
  · cases hz
    refine op_lt_str pins s σ H x y v u Q I rx ry ⟨_, _, ra.str r ea, rb.str r eb, ?_⟩
    simp only [List.toList_toArray]
    rw [ltS_eq]
    exact dl.bl r
  · cases hz
theorem opR_gt : OpR X (compareOp .Gt) (rCmp X.K gtD) := by
  intro pins s σ H x y v u Q I rx ry h
  obtain ⟨S, h, a, b, p, q, z, r, ra, rb, ea, eb, hz, dl⟩ := h
  simp only [gtD] at hz
  split at hz
  · cases hz
    exact op_gt pins s σ H x y v u Q I rx ry ⟨_, _, ra.int r ea, rb.int r eb, dl.bl r⟩
  · cases hz
theorem opR_le : OpR X (compareOp .LtE) (rCmp X.K leD) := by
  intro pins s σ H x y v u Q I rx ry h
  obtain ⟨S, h, a, b, p, q, z, r, ra, rb, ea, eb, hz, dl⟩ := h
  simp only [leD] at hz
  split at hz
  · cases hz
    exact op_le pins s σ H x y v u Q I rx ry ⟨_, _, ra.int r ea, rb.int r eb, dl.bl r⟩
  · cases hz
theorem opR_ge : OpR X (compareOp .GtE) (rCmp X.K fun x y => leD y x) := by
  intro pins s σ H x y v u Q I rx ry h
  obtain ⟨S, h, a, b, p, q, z, r, ra, rb, ea, eb, hz, dl⟩ := h
  simp only [leD] at hz
  split at hz
  · cases hz
    exact op_ge pins s σ H x y v u Q I rx ry ⟨_, _, ra.int r ea, rb.int r eb, dl.bl r⟩
  · cases hz
theorem isN_of {K : PySem.W.Frag} {S : Sg} {H : Hp} {h : Hq} {a : Vv} {x : V} {p : D} {k : Bool} (r : RelH K S H h) (ra : RW K S H a x) (ea : rdV h a = some p) (e : isD p .non = some k) : decide (x = .non) = k := by
  rcases ra.view r ea with q | ⟨ds, c, vs, rfl, rfl, _⟩
  · cases p <;> first
      | (simp [isD] at e; done)
      | (unfold RV at q; subst q; simp [isD] at e; subst e; decide)
      | (unfold RV at q; obtain ⟨c, vs, rfl, _⟩ := q; simp [isD] at e; subst e; exact decide_eq_false (fun z => nomatch z))
      | (unfold RV at q; subst q; simp [isD] at e; subst e; exact decide_eq_false (fun z => nomatch z))
  · simp [isD] at e; subst e; exact decide_eq_false (fun z => nomatch z)
theorem isD_right {x y : D} {k : Bool} (e : isD x y = some k) : y = .non ∨ ∃ b, y = .bl b := by
  cases x <;> cases y <;> first | exact .inl rfl | exact .inr ⟨_, rfl⟩ | (simp [isD] at e)
/-- x is True, x is False -/
theorem isB_of {K : PySem.W.Frag} {S : Sg} {H : Hp} {h : Hq} {a : Vv} {x : V} {v : Value} {p : D} {k b : Bool} (r : RelH K S H h) (ra : RW K S H a x) (ea : rdV h a = some p) (rx : RelV x v) (e : isD p (.bl b) = some k) : plainIs v (.bool b) = true ∧ (v == .bool b) = k := by
  rcases ra.view r ea with q | ⟨ds, c, vs, rfl, rfl, _⟩
  · cases p with
    | non => unfold RV at q; subst q; cases rx; simp [isD] at e; subst e; exact ⟨rfl, rfl⟩
    | bl c =>
      unfold RV at q; subst q; cases (show v = Value.bool c from rx); simp [isD] at e; subst e
      exact ⟨rfl, by cases c <;> cases b <;> decide⟩
    | int i => unfold RV at q; subst q; obtain ⟨t, rfl⟩ := (show ∃ t, v = Value.int i t from rx); simp [isD] at e; subst e; exact ⟨rfl, beq_eq_false_iff_ne.mpr (fun z => nomatch z)⟩
    | str s => unfold RV at q; subst q; obtain ⟨t, rfl⟩ := (show ∃ t, v = Value.str _ t from rx); simp [isD] at e; subst e; exact ⟨rfl, beq_eq_false_iff_ne.mpr (fun z => nomatch z)⟩
    | tup _ => simp [isD] at e
    | lst _ => simp [isD] at e
    | opq _ => simp [isD] at e
  · simp [isD] at e
theorem opR_is : OpR X (compareOp .Is) (rCmp X.K isD) := by
  intro pins s σ H x y v u Q I rx ry h
  obtain ⟨S, h, a, b, p, q, z, r, ra, rb, ea, eb, hz, dl⟩ := h
  obtain ⟨k, hk, rfl⟩ := Option.map_eq_some_iff.mp hz
  rcases isD_right hk with rfl | ⟨c, rfl⟩
  · refine op_isN pins s σ H x y v u Q I rx ry ⟨rb.non r eb, ?_⟩
    rw [isN_of r ra ea hk]
    exact dl.bl r
  · obtain rfl := rb.bl r eb
    cases (show u = Value.bool c from ry)
    obtain ⟨h1, h2⟩ := isB_of r ra ea rx hk
    exact wpAny_is_plain h1 ⟨.bl k, H, I, by rw [h2]; rfl, dl.bl r⟩
theorem opR_isn : OpR X (compareOp .IsNot) (rCmp X.K fun x y => (isD x y).map (!·)) := by
  intro pins s σ H x y v u Q I rx ry h
  obtain ⟨S, h, a, b, p, q, z, r, ra, rb, ea, eb, hz, dl⟩ := h
  obtain ⟨k', hk', rfl⟩ := Option.map_eq_some_iff.mp hz
  obtain ⟨k, hk, rfl⟩ := Option.map_eq_some_iff.mp hk'
  rcases isD_right hk with rfl | ⟨c, rfl⟩
  · refine op_notN pins s σ H x y v u Q I rx ry ⟨rb.non r eb, ?_⟩
    rw [isN_of r ra ea hk]
    exact dl.bl r
  · obtain rfl := rb.bl r eb
    cases (show u = Value.bool c from ry)
    obtain ⟨h1, h2⟩ := isB_of r ra ea rx hk
    exact wpAny_isNot_plain h1 ⟨.bl (!k), H, I, by rw [h2]; rfl, dl.bl r⟩
theorem RW.flat {K : PySem.W.Frag} {S : Sg} {H : Hp} {h : Hq} {a : Vv} {x : V} {p : D} (r : RelH K S H h) (ra : RW K S H a x) (ea : rdV h a = some p) (hf : p.isFlat = true) : RV K S H p x :=
  ra.dat r ea (fun ds e => by subst e; simp [D.isFlat] at hf)
theorem mem_any (c : Nat) : ∀ t : List Nat, decide (c ∈ (Str.mk t.toArray).cps.toList) = t.any (· == c)
  | [] => rfl
  | d :: t => by
    have ih := mem_any c t
    simp only [List.toList_toArray] at ih ⊢
    rw [List.any_cons]
    by_cases hd : d = c
    · subst hd; simp
    · rw [beq_eq_false_iff_ne.mpr hd, Bool.false_or, ← ih]
      simp [List.mem_cons, Ne.symm hd]
theorem inD_py {x : D} {n : Nat} (hx : D.shp n x = true) : ∀ {m : Nat} {ys : List D}, D.shps m ys = true → ((toPys ys).any fun z => PyData.eqv z (toPy x)) = inD x ys
  | m, [], _ => rfl
  | m, y :: ys, h => by
    rw [D.shps, Bool.and_eq_true] at h
    have ih := inD_py hx h.2
    unfold inD at ih ⊢
    rw [toPys, List.any_cons, List.any_cons, toPy_eqv m n y x h.1 hx, ih]
/-- x in a tuple of data -/
theorem op_inT (hu : X.A.units + 65 < cLine) : OpR X (compareOp .In) (fun x y H Q => ∃ d ds, Dp X.K H x d ∧ Dp X.K H y (.tuple ds) ∧ SeqAt.shaped d = true ∧ SeqAt.shaped (.tuple ds) = true ∧ Q (.bl (ds.any fun z => PyData.eqv z d)) H) := by
  intro pins s σ H x y v u Q I rx ry h
  obtain ⟨d, ds, hd, he, sd, se, q⟩ := h
  obtain ⟨as, r1⟩ := Dp.reads I d x v hd rx
  obtain ⟨bs, r2⟩ := Dp.reads I (.tuple ds) y u he ry
  exact SeqAt.in_tuple_reads r2 r1 (SeqAt.canLay_of_shaped se) (SeqAt.canLay_of_shaped sd) (room_in_shaped sd hu) ⟨.bl _, H, I, rfl, q⟩
theorem op_notInT (hu : X.A.units + 65 < cLine) : OpR X (compareOp .NotIn) (fun x y H Q => ∃ d ds, Dp X.K H x d ∧ Dp X.K H y (.tuple ds) ∧ SeqAt.shaped d = true ∧ SeqAt.shaped (.tuple ds) = true ∧ Q (.bl (!ds.any fun z => PyData.eqv z d)) H) := by
  intro pins s σ H x y v u Q I rx ry h
  obtain ⟨d, ds, hd, he, sd, se, q⟩ := h
  obtain ⟨as, r1⟩ := Dp.reads I d x v hd rx
  obtain ⟨bs, r2⟩ := Dp.reads I (.tuple ds) y u he ry
  exact SeqAt.notIn_tuple_reads r2 r1 (SeqAt.canLay_of_shaped se) (SeqAt.canLay_of_shaped sd) (room_in_shaped sd hu) ⟨.bl _, H, I, rfl, q⟩
theorem inR (neg : Bool) {op : CmpOp} (ho : OpR X (compareOp op) (rIn X.K neg)) (hs : OpR X (compareOp op) (fun x y H Q => ∃ (c : Nat) (z : Str), x = .str ⟨#[c]⟩ ∧ y = .str z ∧ Q (.bl (if neg then !decide (c ∈ z.cps.toList) else decide (c ∈ z.cps.toList))) H))
    (ht : OpR X (compareOp op) (fun x y H Q => ∃ d ds, Dp X.K H x d ∧ Dp X.K H y (.tuple ds) ∧ SeqAt.shaped d = true ∧ SeqAt.shaped (.tuple ds) = true ∧ Q (.bl (if neg then !(ds.any fun z => PyData.eqv z d) else ds.any fun z => PyData.eqv z d)) H))
    (hl : OpR X (compareOp op) (fun x y H Q => ∃ d ds, Dp X.K H x d ∧ Dp X.K H y (.list ds) ∧ SeqAt.shaped d = true ∧ SeqAt.shaped (.list ds) = true ∧ Q (.bl (if neg then !(ds.any fun z => PyData.eqv z d) else ds.any fun z => PyData.eqv z d)) H)) :
    OpR X (compareOp op) (rCmp X.K fun x y => (isinD x y).map fun k => if neg then !k else k) := by
  intro pins s σ H x y v u Q I rx ry h
  obtain ⟨S, h, a, b, p, q, z, r, ra, rb, ea, eb, hz, dl⟩ := h
  obtain ⟨k', hk', rfl⟩ := Option.map_eq_some_iff.mp hz
  obtain ⟨k, hk, rfl⟩ := Option.map_eq_some_iff.mp hk'
  unfold isinD at hk
  split at hk
  · split at hk
    · rename_i hf
      rw [Bool.and_eq_true] at hf
      cases hk
      obtain ⟨p2, ws, rfl, t2, q2⟩ := rb.tup r eb
      have qa := ra.flat r ea hf.1
      refine ho pins s σ H x _ v u Q I rx ry ⟨p2, ws, rfl, .inr t2, flatV_of hf.1 qa, flatVs_of hf.2 q2, ?_⟩
      rw [inV_of hf.1 qa hf.2 q2]
      exact dl.bl r
    · split at hk
      · rename_i ys hf1 hf
        rw [Bool.and_eq_true] at hf
        cases hk
        have h1 := ra.dp r ea hf.1
        have h2 := rb.dp r eb hf.2
        have h3 := shp_shaped hf.1
        have h4 := shp_shaped hf.2
        unfold toPy at h2 h4
        refine ht pins s σ H x y v u Q I rx ry ⟨_, _, h1, h2, h3, h4, ?_⟩
        rw [inD_py hf.1 (m := 59) hf.2]
        exact dl.bl r
      · cases hk
  · split at hk
    · rename_i hf
      rw [Bool.and_eq_true] at hf
      cases hk
      obtain ⟨p2, ws, rfl, t2, q2⟩ := rb.lst r eb
      have qa := ra.flat r ea hf.1
      refine ho pins s σ H x _ v u Q I rx ry ⟨p2, ws, rfl, .inl (SqL.of t2), flatV_of hf.1 qa, flatVs_of hf.2 q2, ?_⟩
      rw [inV_of hf.1 qa hf.2 q2]
      exact dl.bl r
    · split at hk
      · rename_i ys hf1 hf
        rw [Bool.and_eq_true] at hf
        cases hk
        have h1 := ra.dp r ea hf.1
        have h2 := rb.dp r eb hf.2
        have h3 := shp_shaped hf.1
        have h4 := shp_shaped hf.2
        unfold toPy at h2 h4
        refine hl pins s σ H x y v u Q I rx ry ⟨_, _, h1, h2, h3, h4, ?_⟩
        rw [inD_py hf.1 (m := 59) hf.2]
        exact dl.bl r
      · cases hk
  · cases hk
    refine hs pins s σ H x y v u Q I rx ry ⟨_, _, ra.str r ea, rb.str r eb, ?_⟩
    rename_i c t
    rw [mem_any c t]
    exact dl.bl r
  · cases hk
theorem opR_in (hu : X.A.units + 65 < cLine) : OpR X (compareOp .In) (rCmp X.K isinD) := by
  have h := inR (X := X) false op_in_seq (by
    intro pins s σ H x y v u Q I rx ry h
    exact op_in_sign pins s σ H x y v u Q I rx ry h) (op_inT hu) (op_inD hu)
  have e : (fun x y => (isinD x y).map fun k => if false then !k else k) = isinD := by
    funext x y
    cases isinD x y <;> rfl
  simp only [Bool.false_eq_true, if_false] at h
  have e2 : (fun x y => (isinD x y).map fun k => k) = isinD := by
    funext x y
    cases isinD x y <;> rfl
  rw [e2] at h
  exact h
theorem opR_nin (hu : X.A.units + 65 < cLine) : OpR X (compareOp .NotIn) (rCmp X.K fun x y => (isinD x y).map (!·)) := by
  have h := inR (X := X) true op_notIn_seq (by
    intro pins s σ H x y v u Q I rx ry h
    exact op_notIn_sign pins s σ H x y v u Q I rx ry h) (op_notInT hu) (op_notInD hu)
  simp only [if_true] at h
  exact h
end
end Bk
/-! Bkm: min and max of a list of pairs of ints. -/
namespace Bk
open PySem PySem.Spec PyProof.Rows L2
/-- a comparison, told by the walk's state -/
def CmpIn (prog : Program) (w : World) (A : Around) (op : CmpOp) (P : Nat → Value → Prop) (St : Nat → Heap → Prop) (bt : Nat → Nat → Bool) : Prop :=
  ∀ m i j vi vj (s : Shared) (Q : Value → Shared → Prop) (E : Value → Shared → Prop), St m s.heap → P i vi → P j vj → Q (.bool (bt i j)) s → wpAny (model prog w) A (richCompare op vi vj) Q E s
section
variable {prog : Program} {w : World} {A : Around} {R : Result → Shared → Prop} {I : Addr} {fp wr : List Addr} {n : Nat} {P : Nat → Value → Prop} {St : Nat → Heap → Prop}
theorem min_turns (W : Walks prog w A.in1 I fp wr n P St) (bt : Nat → Nat → Bool) (hc : CmpIn prog w A.in1 .Lt P St bt) (S : Addr) (hf : S ∉ fp) : ∀ (m j : Nat) (s : Shared) (vb : Value) (c : Nat), n - (j + 1) = m → j + 1 ≤ n → St (j + 1) s.heap → P (argBest bt j) vb →
    s.heap.get? S = some ⟨.type "list", none, .seq #[vb, vb] c, #[]⟩ → (∀ v g tk, P (argBest bt (n - 1)) v → (∀ b o, b ∉ wr → b ≠ S → s.heap.get? b = some o → g.get? b = some o) → R (.ok (.ret v)) { s with heap := g, toks := tk }) → codeAny (model prog w) A (.builtin "min.loop" ⟨[.ref I, .none, .ref S], []⟩) R s
  | 0, j, s, vb, c, hm, hj, st, pb, hS, fin => by
    have hw : S ∉ wr := fun z => hf (W.sub _ z)
    have ej : j + 1 = n := by omega
    refine codeAny_builtin PySem.F.entry_min_loop (by
      rw [Around.under_plainId PySem.F.plain_min_loop _]
      show wpAny _ A.in1 (seqItems? (.ref S) >>= _) _ _ s
      exact wpAny_bind (wpAny_seqItems hS rfl (by
        show wpAny _ A.in1 (tryCatch (pyNext (.ref I)) _ >>= _) _ _ s
        exact wpAny_bind (wpAny_tryCatch (W.done s _ _ (by rw [← ej]; exact st) fun g tk kp => by
          show wpAny _ A.in1 (updateSeq S (fun _ => #[]) >>= _) _ _ _
          exact wpAny_bind (wpAny_updateSeq (kp S _ hw hS) rfl (wpAny_bind (wpAny_letGo (wpAny_pure (fin vb _ tk (by rw [← ej]; exact pb) fun b o b1 b2 e => (Heap.get?_update_other _ _ (Ne.symm b2)).trans (kp b o b1 e)))))))))))
  | m + 1, j, s, vb, c, hm, hj, st, pb, hS, fin => by
    have hw : S ∉ wr := fun z => hf (W.sub _ z)
    have lt : j + 1 < n := by omega
    have nm : (toString "min" ++ toString ".loop" : String) = "min.loop" := by decide
    refine codeAny_builtin PySem.F.entry_min_loop (by
      rw [Around.under_plainId PySem.F.plain_min_loop _]
      show wpAny _ A.in1 (seqItems? (.ref S) >>= _) _ _ s
      exact wpAny_bind (wpAny_seqItems hS rfl (by
        show wpAny _ A.in1 (tryCatch (pyNext (.ref I)) _ >>= _) _ _ s
        refine wpAny_bind (wpAny_tryCatch (W.item (j + 1) s _ _ lt st fun v g tk pv st2 kp => ?_))
        have hS2 := kp S _ hw hS
        show wpAny _ A.in1 (tryCatch (holding [v, v] (richCompare .Lt v vb >>= _)) _ >>= _) _ _ _
        refine wpAny_bind (wpAny_tryCatch (wpAny_holding (wpAny_bind (hc (j + 1 + 1) (j + 1) (argBest bt j) v vb _ _ _ st2 pv pb (wpAny_bind (wpAny_holding (wpAny_truthy_bool (wpAny_bind (wpAny_letGo (wpAny_pure ?_))))))))))
        cases hb : bt (j + 1) (argBest bt j) with
        | true =>
          rw [if_pos rfl]
          refine wpAny_bind (wpAny_updateSeq hS2 rfl (wpAny_bind (wpAny_letGo ?_)))
          rw [nm]
          refine wpAny_pure ⟨plainId_quiet PySem.F.plain_min_loop _, min_turns W bt hc S hf m (j + 1) _ v _ (by omega) lt (W.frame _ _ _ st2 fun b bf o e => (Heap.get?_update_other _ _ (fun z : S = b => hf (by rw [z]; exact bf))).trans e) (by unfold argBest; rw [hb, if_pos rfl]; exact pv) (Heap.get?_update_self _ hS2 rfl) fun v' g' tk' p' k' => ?_⟩
          exact fin v' g' tk' p' fun b o b1 b2 e => k' b o b1 b2 ((Heap.get?_update_other _ _ (Ne.symm b2)).trans (kp b o b1 e))
        | false =>
          rw [if_neg Bool.false_ne_true]
          refine wpAny_bind (wpAny_letGo ?_)
          rw [nm]
          refine wpAny_pure ⟨plainId_quiet PySem.F.plain_min_loop _, min_turns W bt hc S hf m (j + 1) _ vb c (by omega) lt st2 (by unfold argBest; rw [hb, if_neg Bool.false_ne_true]; exact pb) hS2 fun v' g' tk' p' k' => ?_⟩
          exact fin v' g' tk' p' fun b o b1 b2 e => k' b o b1 b2 (kp b o b1 e))))
theorem min_begins (W : Walks prog w A.in1 I fp wr n P St) (bt : Nat → Nat → Bool) (hc : CmpIn prog w A.in1 .Lt P St bt) (S : Addr) (hf : S ∉ fp) (hn : 0 < n) {s : Shared} {c : Nat} (st : St 0 s.heap) (hS : s.heap.get? S = some ⟨.type "list", none, .seq #[] c, #[]⟩)
    (fin : ∀ v g tk, P (argBest bt (n - 1)) v → (∀ b o, b ∉ wr → b ≠ S → s.heap.get? b = some o → g.get? b = some o) → R (.ok (.ret v)) { s with heap := g, toks := tk }) : codeAny (model prog w) A (.builtin "min.loop" ⟨[.ref I, .none, .ref S], []⟩) R s := by
  have hw : S ∉ wr := fun z => hf (W.sub _ z)
  have nm : (toString "min" ++ toString ".loop" : String) = "min.loop" := by decide
  refine codeAny_builtin PySem.F.entry_min_loop (by
    rw [Around.under_plainId PySem.F.plain_min_loop _]
    show wpAny _ A.in1 (seqItems? (.ref S) >>= _) _ _ s
    exact wpAny_bind (wpAny_seqItems hS rfl (by
      show wpAny _ A.in1 (tryCatch (pyNext (.ref I)) _ >>= _) _ _ s
      refine wpAny_bind (wpAny_tryCatch (W.item 0 s _ _ hn st fun v g tk pv st2 kp => ?_))
      have hS2 := kp S _ hw hS
      show wpAny _ A.in1 (updateSeq S (fun _ => #[v, v]) >>= _) _ _ _
      refine wpAny_bind (wpAny_updateSeq hS2 rfl ?_)
      rw [nm]
      refine wpAny_pure ⟨plainId_quiet PySem.F.plain_min_loop _, min_turns W bt hc S hf _ 0 _ v _ rfl hn (W.frame _ _ _ st2 fun b bf o e => (Heap.get?_update_other _ _ (fun z : S = b => hf (by rw [z]; exact bf))).trans e) pv (Heap.get?_update_self _ hS2 rfl) fun v' g' tk' p' k' => ?_⟩
      exact fin v' g' tk' p' fun b o b1 b2 e => k' b o b1 b2 ((Heap.get?_update_other _ _ (Ne.symm b2)).trans (kp b o b1 e)))))
theorem min_walk {x : Value} {Q : Value → Shared → Prop} {E : Value → Shared → Prop} {s : Shared} (h : wpAny (model prog w) A.in1 (pyIter x) (fun it s2 => ∃ I fp wr n P St bt, it = .ref I ∧ Walks prog w A.in1 I fp wr n P St ∧ St 0 s2.heap ∧ (∀ b ∈ fp, b < s2.heap.objs.size) ∧ 0 < n ∧ CmpIn prog w A.in1 .Lt P St bt ∧
      ∀ v g tk, P (argBest bt (n - 1)) v → (∀ b o, b ∉ wr → s2.heap.get? b = some o → g.get? b = some o) → Q v { s2 with heap := g, toks := tk }) E s) : wpAny (model prog w) A (call (.builtin "min") [x]) Q E s := by
  have nm : (toString "min" ++ toString ".loop" : String) = "min.loop" := by decide
  refine call_function_tree PySem.F.kind_min PySem.F.plain_min PySem.F.entry_min (PySem.F.args_min1 _) (by
    show wpAny _ A.in1 (Builtin.Builtins.bindParams "min" ["key", "default"] 0 ⟨[], []⟩ >>= _) _ _ s
    refine wpAny_bind (wpAny_of_eq (show Builtin.Builtins.bindParams "min" ["key", "default"] 0 ⟨[], []⟩ = pure [none, none] from rfl) (wpAny_bind (wpAny_pure (wpAny_bind (wpAny_mono h (fun it s2 z => ?_) fun _ _ e => e)))))
    obtain ⟨I, fp, wr, n, P, St, bt, rfl, W, st, low, hn, hc, fin⟩ := z
    refine wpAny_bind (wpAny_newObj_type ?_)
    have hf : s2.heap.objs.size ∉ fp := fun z => Nat.lt_irrefl _ (low _ z)
    rw [nm]
    refine wpAny_pure ⟨plainId_quiet PySem.F.plain_min_loop _, min_begins W bt hc s2.heap.objs.size hf hn (W.frame _ _ _ st fun b _ o e => Heap.get?_push_of_some _ e) (Heap.get?_push_size _ rfl) fun v g tk p k => ?_⟩
    exact fin v g tk p fun b o b1 e => k b o b1 (Nat.ne_of_lt (Heap.lt_size e)) (Heap.get?_push_of_some _ e))
theorem max_turns (W : Walks prog w A.in1 I fp wr n P St) (bt : Nat → Nat → Bool) (hc : CmpIn prog w A.in1 .Gt P St bt) (S : Addr) (hf : S ∉ fp) : ∀ (m j : Nat) (s : Shared) (vb : Value) (c : Nat), n - (j + 1) = m → j + 1 ≤ n → St (j + 1) s.heap → P (argBest bt j) vb →
    s.heap.get? S = some ⟨.type "list", none, .seq #[vb, vb] c, #[]⟩ → (∀ v g tk, P (argBest bt (n - 1)) v → (∀ b o, b ∉ wr → b ≠ S → s.heap.get? b = some o → g.get? b = some o) → R (.ok (.ret v)) { s with heap := g, toks := tk }) → codeAny (model prog w) A (.builtin "max.loop" ⟨[.ref I, .none, .ref S], []⟩) R s
  | 0, j, s, vb, c, hm, hj, st, pb, hS, fin => by
    have hw : S ∉ wr := fun z => hf (W.sub _ z)
    have ej : j + 1 = n := by omega
    refine codeAny_builtin PySem.F.entry_max_loop (by
      rw [Around.under_plainId PySem.F.plain_max_loop _]
      show wpAny _ A.in1 (seqItems? (.ref S) >>= _) _ _ s
      exact wpAny_bind (wpAny_seqItems hS rfl (by
        show wpAny _ A.in1 (tryCatch (pyNext (.ref I)) _ >>= _) _ _ s
        exact wpAny_bind (wpAny_tryCatch (W.done s _ _ (by rw [← ej]; exact st) fun g tk kp => by
          show wpAny _ A.in1 (updateSeq S (fun _ => #[]) >>= _) _ _ _
          exact wpAny_bind (wpAny_updateSeq (kp S _ hw hS) rfl (wpAny_bind (wpAny_letGo (wpAny_pure (fin vb _ tk (by rw [← ej]; exact pb) fun b o b1 b2 e => (Heap.get?_update_other _ _ (Ne.symm b2)).trans (kp b o b1 e)))))))))))
  | m + 1, j, s, vb, c, hm, hj, st, pb, hS, fin => by
    have hw : S ∉ wr := fun z => hf (W.sub _ z)
    have lt : j + 1 < n := by omega
    have nm : (toString "max" ++ toString ".loop" : String) = "max.loop" := by decide
    refine codeAny_builtin PySem.F.entry_max_loop (by
      rw [Around.under_plainId PySem.F.plain_max_loop _]
      show wpAny _ A.in1 (seqItems? (.ref S) >>= _) _ _ s
      exact wpAny_bind (wpAny_seqItems hS rfl (by
        show wpAny _ A.in1 (tryCatch (pyNext (.ref I)) _ >>= _) _ _ s
        refine wpAny_bind (wpAny_tryCatch (W.item (j + 1) s _ _ lt st fun v g tk pv st2 kp => ?_))
        have hS2 := kp S _ hw hS
        show wpAny _ A.in1 (tryCatch (holding [v, v] (richCompare .Gt v vb >>= _)) _ >>= _) _ _ _
        refine wpAny_bind (wpAny_tryCatch (wpAny_holding (wpAny_bind (hc (j + 1 + 1) (j + 1) (argBest bt j) v vb _ _ _ st2 pv pb (wpAny_bind (wpAny_holding (wpAny_truthy_bool (wpAny_bind (wpAny_letGo (wpAny_pure ?_))))))))))
        cases hb : bt (j + 1) (argBest bt j) with
        | true =>
          rw [if_pos rfl]
          refine wpAny_bind (wpAny_updateSeq hS2 rfl (wpAny_bind (wpAny_letGo ?_)))
          rw [nm]
          refine wpAny_pure ⟨plainId_quiet PySem.F.plain_max_loop _, max_turns W bt hc S hf m (j + 1) _ v _ (by omega) lt (W.frame _ _ _ st2 fun b bf o e => (Heap.get?_update_other _ _ (fun z : S = b => hf (by rw [z]; exact bf))).trans e) (by unfold argBest; rw [hb, if_pos rfl]; exact pv) (Heap.get?_update_self _ hS2 rfl) fun v' g' tk' p' k' => ?_⟩
          exact fin v' g' tk' p' fun b o b1 b2 e => k' b o b1 b2 ((Heap.get?_update_other _ _ (Ne.symm b2)).trans (kp b o b1 e))
        | false =>
          rw [if_neg Bool.false_ne_true]
          refine wpAny_bind (wpAny_letGo ?_)
          rw [nm]
          refine wpAny_pure ⟨plainId_quiet PySem.F.plain_max_loop _, max_turns W bt hc S hf m (j + 1) _ vb c (by omega) lt st2 (by unfold argBest; rw [hb, if_neg Bool.false_ne_true]; exact pb) hS2 fun v' g' tk' p' k' => ?_⟩
          exact fin v' g' tk' p' fun b o b1 b2 e => k' b o b1 b2 (kp b o b1 e))))
theorem max_begins (W : Walks prog w A.in1 I fp wr n P St) (bt : Nat → Nat → Bool) (hc : CmpIn prog w A.in1 .Gt P St bt) (S : Addr) (hf : S ∉ fp) (hn : 0 < n) {s : Shared} {c : Nat} (st : St 0 s.heap) (hS : s.heap.get? S = some ⟨.type "list", none, .seq #[] c, #[]⟩)
    (fin : ∀ v g tk, P (argBest bt (n - 1)) v → (∀ b o, b ∉ wr → b ≠ S → s.heap.get? b = some o → g.get? b = some o) → R (.ok (.ret v)) { s with heap := g, toks := tk }) : codeAny (model prog w) A (.builtin "max.loop" ⟨[.ref I, .none, .ref S], []⟩) R s := by
  have hw : S ∉ wr := fun z => hf (W.sub _ z)
  have nm : (toString "max" ++ toString ".loop" : String) = "max.loop" := by decide
  refine codeAny_builtin PySem.F.entry_max_loop (by
    rw [Around.under_plainId PySem.F.plain_max_loop _]
    show wpAny _ A.in1 (seqItems? (.ref S) >>= _) _ _ s
    exact wpAny_bind (wpAny_seqItems hS rfl (by
      show wpAny _ A.in1 (tryCatch (pyNext (.ref I)) _ >>= _) _ _ s
      refine wpAny_bind (wpAny_tryCatch (W.item 0 s _ _ hn st fun v g tk pv st2 kp => ?_))
      have hS2 := kp S _ hw hS
      show wpAny _ A.in1 (updateSeq S (fun _ => #[v, v]) >>= _) _ _ _
      refine wpAny_bind (wpAny_updateSeq hS2 rfl ?_)
      rw [nm]
      refine wpAny_pure ⟨plainId_quiet PySem.F.plain_max_loop _, max_turns W bt hc S hf _ 0 _ v _ rfl hn (W.frame _ _ _ st2 fun b bf o e => (Heap.get?_update_other _ _ (fun z : S = b => hf (by rw [z]; exact bf))).trans e) pv (Heap.get?_update_self _ hS2 rfl) fun v' g' tk' p' k' => ?_⟩
      exact fin v' g' tk' p' fun b o b1 b2 e => k' b o b1 b2 ((Heap.get?_update_other _ _ (Ne.symm b2)).trans (kp b o b1 e)))))
theorem max_walk {x : Value} {Q : Value → Shared → Prop} {E : Value → Shared → Prop} {s : Shared} (h : wpAny (model prog w) A.in1 (pyIter x) (fun it s2 => ∃ I fp wr n P St bt, it = .ref I ∧ Walks prog w A.in1 I fp wr n P St ∧ St 0 s2.heap ∧ (∀ b ∈ fp, b < s2.heap.objs.size) ∧ 0 < n ∧ CmpIn prog w A.in1 .Gt P St bt ∧
      ∀ v g tk, P (argBest bt (n - 1)) v → (∀ b o, b ∉ wr → s2.heap.get? b = some o → g.get? b = some o) → Q v { s2 with heap := g, toks := tk }) E s) : wpAny (model prog w) A (call (.builtin "max") [x]) Q E s := by
  have nm : (toString "max" ++ toString ".loop" : String) = "max.loop" := by decide
  refine call_function_tree PySem.F.kind_max PySem.F.plain_max PySem.F.entry_max (PySem.F.args_max1 _) (by
    show wpAny _ A.in1 (Builtin.Builtins.bindParams "max" ["key", "default"] 0 ⟨[], []⟩ >>= _) _ _ s
    refine wpAny_bind (wpAny_of_eq (show Builtin.Builtins.bindParams "max" ["key", "default"] 0 ⟨[], []⟩ = pure [none, none] from rfl) (wpAny_bind (wpAny_pure (wpAny_bind (wpAny_mono h (fun it s2 z => ?_) fun _ _ e => e)))))
    obtain ⟨I, fp, wr, n, P, St, bt, rfl, W, st, low, hn, hc, fin⟩ := z
    refine wpAny_bind (wpAny_newObj_type ?_)
    have hf : s2.heap.objs.size ∉ fp := fun z => Nat.lt_irrefl _ (low _ z)
    rw [nm]
    refine wpAny_pure ⟨plainId_quiet PySem.F.plain_max_loop _, max_begins W bt hc s2.heap.objs.size hf hn (W.frame _ _ _ st fun b _ o e => Heap.get?_push_of_some _ e) (Heap.get?_push_size _ rfl) fun v g tk p k => ?_⟩
    exact fin v g tk p fun b o b1 e => k b o b1 (Nat.ne_of_lt (Heap.lt_size e)) (Heap.get?_push_of_some _ e))
/-- the walk, and that what was there stays -/
theorem keepWalk {B : Heap} (W : Walks prog w A I fp wr n P St) (hB : ∀ b ∈ wr, B.get? b = none) : Walks prog w A I (fp ++ List.range B.objs.size) wr n P (fun i h => St i h ∧ ∀ b o, B.get? b = some o → h.get? b = some o) where
  sub := fun b hb => List.mem_append.mpr (.inl (W.sub b hb))
  frame := fun i h h' st k => ⟨W.frame i h h' st.1 fun b hb o e => k b (List.mem_append.mpr (.inl hb)) o e, fun b o e => k b (List.mem_append.mpr (.inr (List.mem_range.mpr (Heap.lt_size e)))) o (st.2 b o e)⟩
  item := fun i s Q E hi st hQ => W.item i s Q E hi st.1 fun v h' tk p st' k => hQ v h' tk p ⟨st', fun b o e => k b o (fun z => by rw [hB b z] at e; cases e) (st.2 b o e)⟩ k
  done := fun s Q E st hQ => W.done s Q E st.1 fun h' tk k => hQ h' tk k
  self := fun i s Q E st hQ => W.self i s Q E st.1 hQ
end
section
variable {X : Cx}
def ItP (h : Heap) (v : Value) (n : Int × Int) : Prop := ∃ (p : Addr) (t u : Tok), v = .ref p ∧ IsTup h p #[.int n.1 t, .int n.2 u]
theorem rc_min {A : Around} {s : Shared} {v u : Value} {a b : Int × Int} (hu : A.units < cLine) (hv : ItP s.heap v a) (hw : ItP s.heap u b) : Ob.RcOp .Lt A s v u (ltP a b) := by
  obtain ⟨p, t1, t2, rfl, h1⟩ := hv
  obtain ⟨q, t3, t4, rfl, h2⟩ := hw
  have R := Ob.RcOp.tuples_lt (A := A) (s := s) (e := fun j => if j = 0 then decide (a.1 = b.1) else decide (a.2 = b.2)) (r := fun j => if j = 0 then decide (a.1 < b.1) else decide (a.2 < b.2)) h1 h2 hu (fun j g1 g2 => by
    match j, g1 with
    | 0, _ => exact (show (a.1 == b.1) = decide (a.1 = b.1) from rfl) ▸ SeqAt.EqAt.int_int _ _ _ _
    | 1, _ => exact (show (a.2 == b.2) = decide (a.2 = b.2) from rfl) ▸ SeqAt.EqAt.int_int _ _ _ _) (fun j g1 g2 _ => by
    match j, g1 with
    | 0, _ => exact Ob.RcOp.lt_int _ _ _ _
    | 1, _ => exact Ob.RcOp.lt_int _ _ _ _)
  have e : ltP a b = Ob.lexAt (fun j => if j = 0 then decide (a.1 = b.1) else decide (a.2 = b.2)) (fun j => if j = 0 then decide (a.1 < b.1) else decide (a.2 < b.2)) false 0 2 := by
    unfold ltP
    simp only [Ob.lexAt]
    by_cases q1 : a.1 = b.1
    · by_cases q2 : a.2 = b.2
      · simp [q1, q2]
      · simp [q1, q2]
    · simp [q1]
  rw [e]
  exact R
theorem rc_max {A : Around} {s : Shared} {v u : Value} {a b : Int × Int} (hu : A.units < cLine) (hv : ItP s.heap v a) (hw : ItP s.heap u b) : Ob.RcOp .Gt A s v u (gtP a b) := by
  obtain ⟨p, t1, t2, rfl, h1⟩ := hv
  obtain ⟨q, t3, t4, rfl, h2⟩ := hw
  have R := Ob.RcOp.tuples_gt (A := A) (s := s) (e := fun j => if j = 0 then decide (a.1 = b.1) else decide (a.2 = b.2)) (r := fun j => if j = 0 then decide (b.1 < a.1) else decide (b.2 < a.2)) h1 h2 hu (fun j g1 g2 => by
    match j, g1 with
    | 0, _ => exact (show (a.1 == b.1) = decide (a.1 = b.1) from rfl) ▸ SeqAt.EqAt.int_int _ _ _ _
    | 1, _ => exact (show (a.2 == b.2) = decide (a.2 = b.2) from rfl) ▸ SeqAt.EqAt.int_int _ _ _ _) (fun j g1 g2 _ => by
    match j, g1 with
    | 0, _ => exact Ob.RcOp.gt_int _ _ _ _
    | 1, _ => exact Ob.RcOp.gt_int _ _ _ _)
  have e : gtP a b = Ob.lexAt (fun j => if j = 0 then decide (a.1 = b.1) else decide (a.2 = b.2)) (fun j => if j = 0 then decide (b.1 < a.1) else decide (b.2 < a.2)) false 0 2 := by
    unfold gtP
    simp only [Ob.lexAt]
    by_cases q1 : a.1 = b.1
    · by_cases q2 : a.2 = b.2
      · simp [q1, q2]
      · simp [q1, q2]
    · simp [q1]
  rw [e]
  exact R
end
/-- min, max of a list of pairs -/
def bestP (f : Int × Int → Int × Int → Bool) (ns : List (Int × Int)) : Nat := argBest (fun i j => f (ns.getD i (0, 0)) (ns.getD j (0, 0))) (ns.length - 1)
theorem bestQ_at (f : Int × Int → Int × Int → Bool) {x : Int × Int} {r : List (Int × Int)} : ∀ k, k ≤ r.length → ((r.take k).foldl (fun a b => if f b a = true then b else a) x) = (x :: r).getD (argBest (fun i j => f ((x :: r).getD i (0, 0)) ((x :: r).getD j (0, 0))) k) (0, 0)
  | 0, _ => rfl
  | k + 1, hk => by
    have ih := bestQ_at f (x := x) (r := r) k (by omega)
    have hk2 : k < r.length := by omega
    rw [List.take_succ_eq_append_getElem hk2, List.foldl_append, ih, List.foldl_cons, List.foldl_nil]
    have e : (x :: r).getD (k + 1) (0, 0) = r[k] := by simp [List.getD_eq_getElem?_getD, hk2]
    have e2 : argBest (fun i j => f ((x :: r).getD i (0, 0)) ((x :: r).getD j (0, 0))) (k + 1) = if f ((x :: r).getD (k + 1) (0, 0)) ((x :: r).getD (argBest (fun i j => f ((x :: r).getD i (0, 0)) ((x :: r).getD j (0, 0))) k) (0, 0)) = true then k + 1 else argBest (fun i j => f ((x :: r).getD i (0, 0)) ((x :: r).getD j (0, 0))) k := rfl
    rw [e2]
    generalize argBest (fun i j => f ((x :: r).getD i (0, 0)) ((x :: r).getD j (0, 0))) k = m
    rw [e]
    split
    · rw [e]
    · rfl
theorem bestQ_ok {f : Int × Int → Int × Int → Bool} {ns : List (Int × Int)} {z : D} (h : bestQ f ns = some z) : 0 < ns.length ∧ z = .tup [.int (ns.getD (bestP f ns) (0, 0)).1, .int (ns.getD (bestP f ns) (0, 0)).2] := by
  cases ns with
  | nil => cases h
  | cons x r =>
    refine ⟨Nat.succ_pos _, ?_⟩
    have e := bestQ_at f (x := x) (r := r) r.length (Nat.le_refl _)
    rw [List.take_length] at e
    replace h : (match r.foldl (fun a b => if f b a = true then b else a) x with | (a, b) => some (D.tup [.int a, .int b])) = some z := h
    rw [e] at h
    exact (Option.some.inj h).symm
def rBest (K : PySem.W.Frag) (f : Int × Int → Int × Int → Bool) : List V → Hp → VK → Prop := fun vs H Q => ∃ (a : Addr) (ps : List Addr) (ns : List (Int × Int)), vs = [V.ref a] ∧ SqL K H a (ps.map V.ref) ∧ Paired (fun p n => SqT K H p [.int n.1, .int n.2]) ps ns ∧ 0 < ns.length ∧
  ∀ p, ps[bestP f ns]? = some p → Q (.ref p) H
theorem refsAt : ∀ {ps : List Addr} {us : List Value}, Vals (ps.map V.ref) us → us = ps.map Value.ref
  | [], us, h => by cases h; rfl
  | p :: ps, us, h => by
    cases h with
    | cons h1 h2 =>
      cases h1
      rw [refsAt h2]
      rfl
theorem pairAt {X : Cx} {pins : List (Addr × Obj)} {σ : L2.St} {H : Hp} {s : Shared} (I : L2.Inv X pins σ H s) {p : Addr} {n : Int × Int} (h : SqT X.K H p [.int n.1, .int n.2]) : ItP s.heap (.ref p) n := by
  obtain ⟨its, r, t, _⟩ := I.tuple h
  cases r with
  | cons h1 r =>
    cases r with
    | cons h2 r =>
      cases r
      obtain ⟨t1, rfl⟩ := h1
      obtain ⟨t2, rfl⟩ := h2
      exact ⟨p, t1, t2, rfl, t⟩
theorem ItP.keep {h h' : Heap} {v : Value} {n : Int × Int} (q : ItP h v n) (k : ∀ b o, h.get? b = some o → h'.get? b = some o) : ItP h' v n := by
  obtain ⟨p, t, u, rfl, o, e, r⟩ := q
  exact ⟨p, t, u, rfl, o, k _ _ e, r⟩
theorem cr_minP {X : Cx} (hc : X.calm = true) (hu : X.A.units + 1 < cLine) : CallR X (.builtin "min") (rBest X.K ltP) := by
  intro pins s σ H vs us Q I r h
  obtain ⟨a, ps, ns, rfl, hs, pr, hne, q⟩ := h
  obtain ⟨its, rv, hl, _⟩ := I.list hs
  rw [Vals.ref1 r]
  have ei := refsAt rv
  subst ei
  have hlen : ps.length = ns.length := Paired.length pr
  have hl2 := hl.isList
  have lt : a < s.heap.objs.size := by obtain ⟨_, e, _⟩ := hl2; exact Heap.lt_size e
  refine min_walk (wpAny_pyIter_list hl2 ?_)
  refine ⟨s.heap.objs.size, _, _, _, _, _, fun i j => ltP (ns.getD i (0, 0)) (ns.getD j (0, 0)), rfl, keepWalk (B := s.heap) (Walks.list (A := X.A.in1) (I.ok.hd hc) _ a (Nat.ne_of_lt lt) (ps.map Value.ref).toArray) (fun b hb => ?_), ⟨⟨⟨_, Heap.get?_push_size _ rfl, rfl, rfl⟩, hl2.push _⟩, fun b o e => Heap.get?_push_of_some _ e⟩, fun b hb => ?_, ?_, ?_, fun v g tk hP hk => ?_⟩
  · rw [List.mem_singleton.mp hb]
    cases e : s.heap.get? s.heap.objs.size with
    | none => rfl
    | some o => exact absurd (Heap.lt_size e) (Nat.lt_irrefl _)
  · show b < (s.heap.push _).objs.size
    rw [Heap.size_push]
    rcases List.mem_append.mp hb with hb | hb
    · rcases List.mem_cons.mp hb with rfl | hb
      · exact Nat.lt_succ_self _
      · rw [List.mem_singleton.mp hb]; exact Nat.lt_succ_of_lt lt
    · exact Nat.lt_succ_of_lt (List.mem_range.mp hb)
  · rw [List.size_toArray, List.length_map, hlen]; exact hne
  · intro m i j vi vj s' Q' E' st pi pj q'
    have get : ∀ i v, (ps.map Value.ref).toArray[i]? = some v → ItP s'.heap v (ns.getD i (0, 0)) := fun i v hv => by
      rw [List.getElem?_toArray, List.getElem?_map] at hv
      obtain ⟨p, e1, rfl⟩ := Option.map_eq_some_iff.mp hv
      obtain ⟨n, e2, hn⟩ := paired_get pr e1
      rw [List.getD_eq_getElem?_getD, e2]
      exact (pairAt I hn).keep st.2
    exact rc_min (A := X.A.in1) (show X.A.units + 1 < cLine from hu) (get i vi pi) (get j vj pj) X.prog X.w E' Q' q'
  · rw [List.size_toArray, List.length_map, hlen, List.getElem?_toArray, List.getElem?_map] at hP
    obtain ⟨p, e1, rfl⟩ := Option.map_eq_some_iff.mp hP
    exact ⟨.ref p, H, I.kept (fun b o e => hk b o (fun z => by rw [List.mem_singleton.mp z] at e; exact absurd (Heap.lt_size e) (Nat.lt_irrefl _)) (Heap.get?_push_of_some _ e)), rfl, q p e1⟩
theorem cr_maxP {X : Cx} (hc : X.calm = true) (hu : X.A.units + 1 < cLine) : CallR X (.builtin "max") (rBest X.K gtP) := by
  intro pins s σ H vs us Q I r h
  obtain ⟨a, ps, ns, rfl, hs, pr, hne, q⟩ := h
  obtain ⟨its, rv, hl, _⟩ := I.list hs
  rw [Vals.ref1 r]
  have ei := refsAt rv
  subst ei
  have hlen : ps.length = ns.length := Paired.length pr
  have hl2 := hl.isList
  have lt : a < s.heap.objs.size := by obtain ⟨_, e, _⟩ := hl2; exact Heap.lt_size e
  refine max_walk (wpAny_pyIter_list hl2 ?_)
  refine ⟨s.heap.objs.size, _, _, _, _, _, fun i j => gtP (ns.getD i (0, 0)) (ns.getD j (0, 0)), rfl, keepWalk (B := s.heap) (Walks.list (A := X.A.in1) (I.ok.hd hc) _ a (Nat.ne_of_lt lt) (ps.map Value.ref).toArray) (fun b hb => ?_), ⟨⟨⟨_, Heap.get?_push_size _ rfl, rfl, rfl⟩, hl2.push _⟩, fun b o e => Heap.get?_push_of_some _ e⟩, fun b hb => ?_, ?_, ?_, fun v g tk hP hk => ?_⟩
  · rw [List.mem_singleton.mp hb]
    cases e : s.heap.get? s.heap.objs.size with
    | none => rfl
    | some o => exact absurd (Heap.lt_size e) (Nat.lt_irrefl _)
  · show b < (s.heap.push _).objs.size
    rw [Heap.size_push]
    rcases List.mem_append.mp hb with hb | hb
    · rcases List.mem_cons.mp hb with rfl | hb
      · exact Nat.lt_succ_self _
      · rw [List.mem_singleton.mp hb]; exact Nat.lt_succ_of_lt lt
    · exact Nat.lt_succ_of_lt (List.mem_range.mp hb)
  · rw [List.size_toArray, List.length_map, hlen]; exact hne
  · intro m i j vi vj s' Q' E' st pi pj q'
    have get : ∀ i v, (ps.map Value.ref).toArray[i]? = some v → ItP s'.heap v (ns.getD i (0, 0)) := fun i v hv => by
      rw [List.getElem?_toArray, List.getElem?_map] at hv
      obtain ⟨p, e1, rfl⟩ := Option.map_eq_some_iff.mp hv
      obtain ⟨n, e2, hn⟩ := paired_get pr e1
      rw [List.getD_eq_getElem?_getD, e2]
      exact (pairAt I hn).keep st.2
    exact rc_max (A := X.A.in1) (show X.A.units + 1 < cLine from hu) (get i vi pi) (get j vj pj) X.prog X.w E' Q' q'
  · rw [List.size_toArray, List.length_map, hlen, List.getElem?_toArray, List.getElem?_map] at hP
    obtain ⟨p, e1, rfl⟩ := Option.map_eq_some_iff.mp hP
    exact ⟨.ref p, H, I.kept (fun b o e => hk b o (fun z => by rw [List.mem_singleton.mp z] at e; exact absurd (Heap.lt_size e) (Nat.lt_irrefl _)) (Heap.get?_push_of_some _ e)), rfl, q p e1⟩
section
variable {K : PySem.W.Frag} {S : Sg} {H : Hp}
theorem RVs.pairs : ∀ {ds : List D} {ns : List (Int × Int)} {ws : List V}, allP ds = some ns → RVs K S H ds ws → ∃ ps : List Addr, ws = ps.map V.ref ∧ Paired (fun p n => SqT K H p [.int n.1, .int n.2]) ps ns
  | [], ns, ws, e, q => by
    cases e
    rw [q.nil_iff]
    exact ⟨[], rfl, .nil⟩
  | d :: ds, ns, ws, e, q => by
    unfold allP at e
    split at e
    · rename_i e0; cases e0
    · rename_i a b r e0
      cases e0
      obtain ⟨ms, e1, rfl⟩ := Option.map_eq_some_iff.mp e
      obtain ⟨v, t, rfl, q1, q2⟩ := q.of_cons
      obtain ⟨ps, rfl, pr⟩ := RVs.pairs e1 q2
      unfold RV at q1
      obtain ⟨p, vs, rfl, hs, q1⟩ := q1
      obtain ⟨v1, t1, rfl, y1, q1⟩ := q1.of_cons
      obtain ⟨v2, t2, rfl, y2, q1⟩ := q1.of_cons
      rw [q1.nil_iff] at hs
      unfold RV at y1 y2
      subst y1 y2
      exact ⟨p :: ps, rfl, .cons hs pr⟩
    · cases e
end
end Bk
/-! Bke: enumerate of a tuple. -/
namespace Bk
open PySem PySem.Spec PyProof.Rows L2
theorem meets_enumT (l : Addr) (items : Array Value) (n : Nat) (dct : Option Addr) (sl : Array (Option Value)) :
    Meets (Builtin.«enumerate.__new__» ⟨[.type "enumerate", .ref l], []⟩) (fun _ R s => s.heap.get? l = some { cls := .type "tuple", dict := dct, data := .seq items n, slots := sl } ∧
      R (.ok (.ret (.ref (s.heap.push { cls := .type "tuple_iterator", data := .fields #[.ref l, .int 0 0] }).objs.size)))
        { s with heap := (s.heap.push { cls := .type "tuple_iterator", data := .fields #[.ref l, .int 0 0] }).push { cls := .type "enumerate", data := .fields #[.none, .bool false, .ref s.heap.objs.size, rawInt 0, .none, .none] } }) :=
  .of_wp fun prog w A R s h => by
    obtain ⟨hp, g, d, tk, os⟩ := s; obtain ⟨hl, h⟩ := h
    have hsub := sub_enumerate
    have hL : Heap.IsTuple (Shared.heap ⟨hp, g, d, tk, os⟩) l items := ⟨_, hl, rfl, n, rfl⟩
    have q1 : ∀ {A' : Around} {E : Value → Shared → Prop} {Q : Value → Shared → Prop}, Q (.ref hp.objs.size) ⟨hp.push { cls := .type "tuple_iterator", data := .fields #[.ref l, .int 0 0] }, g, d, tk, os⟩ → wpAny (model prog w) A' (pyIter (.ref l)) Q E ⟨hp, g, d, tk, os⟩ :=
      fun q => wpAny_pyIter_tuple hL q
    wp_walk using q1
    refine wpAny_stack_any fun st => wpAny_pure ?_
    split
    · rename_i c _ _ _ _ _
      cases (c == Value.type "enumerate")
      · wp_walk using q1
        exact ⟨_, rfl, h⟩
      · wp_walk using q1
        exact ⟨_, rfl, h⟩
    · wp_walk using q1
      exact ⟨_, rfl, h⟩
section
variable {prog : Program} {w : World} {A : Around} {E : Value → Shared → Prop} {s : Shared}
theorem call_enumT {l : Addr} {items : Array Value} {Q : Value → Shared → Prop} (hL : s.heap.IsTuple l items)
    (h : ∀ h', IsEnum h' (s.heap.objs.size + 1) s.heap.objs.size 0 .none → h'.IsTupleIter s.heap.objs.size l 0 → h'.objs.size = s.heap.objs.size + 2 →
      (∀ b o, s.heap.get? b = some o → h'.get? b = some o) → Q (.ref (s.heap.objs.size + 1)) { s with heap := h' }) :
    wpAny (model prog w) A (call (.type "enumerate") [.ref l]) Q E s := by
  obtain ⟨⟨c, dct, dt, sl⟩, hl, hc, n, hd⟩ := hL
  replace hc : c = .type "tuple" := hc
  replace hd : dt = .seq items n := hd
  subst hc hd
  refine callType_new F.called_enumerate (by decide) (F.typeCall_enumerate_1 _) (F.newCall_enumerate_1 _) (fun obj => F.args_object_init_2 obj _) F.entry_enumerate_new
    (meets_enumT l items n dct sl) ⟨hl, ?_⟩
  have hz : (s.heap.push { cls := .type "tuple_iterator", data := .fields #[.ref l, .int 0 0] }).objs.size = s.heap.objs.size + 1 := Heap.size_push ..
  show _ ∧ _
  rw [hz]
  have he : IsEnum ((s.heap.push { cls := .type "tuple_iterator", data := .fields #[.ref l, .int 0 0] }).push
      { cls := .type "enumerate", data := .fields #[.none, .bool false, .ref s.heap.objs.size, rawInt 0, .none, .none] }) (s.heap.objs.size + 1) s.heap.objs.size 0 .none := by
    have := Heap.get?_push_size (s.heap.push { cls := .type "tuple_iterator", data := .fields #[.ref l, .int 0 0] })
      (o := { cls := .type "enumerate", data := .fields #[.none, .bool false, .ref s.heap.objs.size, rawInt 0, .none, .none] }) rfl
    rw [hz] at this; exact this
  refine ⟨⟨_, he, rfl⟩, h _ he ⟨_, Heap.get?_push_of_some _ (Heap.get?_push_size _ rfl), rfl, rfl⟩ (by rw [Heap.size_push, hz]) fun b o x => Heap.get?_push_of_some _ (Heap.get?_push_of_some _ x)⟩
end
/-- the tuple at a, each item in a new pair -/
def Iet (K : PySem.W.Frag) (a : Addr) : It :=
  ⟨fun i H => ∃ (xs : List V) (x : V), SqT K H a xs ∧ xs[i]? = some x, fun i H v H' => ∃ T x, v = .ref T ∧ H T = none ∧ H' = upd H T (.tup [.int (i : Nat), x]) ∧ ∀ xs, SqT K H a xs → xs[i]? = some x, fun i H => ∃ xs : List V, SqT K H a xs ∧ xs.length = i⟩
theorem turn_enumT {P : Program} {w : World} {K : PySem.W.Frag} {elts : List PySem.Expr} {kk : Nat} {tpos : Pos} (a e it : Addr) :
    Turn P w K (.Tuple elts kk tpos) (Iet K a) [e, it] e (fun i h => (∃ old, IsEnum h e it ((i : Nat) : Int) old) ∧ h.IsTupleIter it a i ∧ e ≠ it ∧ a ≠ it ∧ a ≠ e) where
  mem := by simp
  obj := fun i h st b hb => by
    obtain ⟨⟨old, he⟩, ⟨o, ho, hc, hd⟩, _⟩ := st
    have e' : b = e ∨ b = it := by simpa using hb
    rcases e' with z | z
    · rw [z]; exact ⟨_, he, fun v q => nomatch q⟩
    · rw [z]; exact ⟨o, ho, fun v q => by rw [hd] at q; cases q⟩
  keep := fun i h h' st k => let ⟨⟨old, he⟩, hi, hne⟩ := st; ⟨⟨old, k e (by simp) _ he⟩, hi.at fun o q => k it (by simp) o q, hne⟩
  item := by
    intro X hP hw hK hc i pins s σ H E I hf st hg
    subst hP hw hK
    obtain ⟨⟨old, he⟩, hit, hne, hai, hae⟩ := st
    obtain ⟨xs, x, hq, hx⟩ := hg
    obtain ⟨its, rv, p, hz⟩ := I.tuple hq
    obtain ⟨u, hu, ru⟩ := rv.get hx
    have hel : e < s.heap.objs.size := Heap.lt_size he
    have hil : it < s.heap.objs.size := by obtain ⟨_, q, _⟩ := hit; exact Heap.lt_size q
    have hlt : i < its.toArray.size := by
      have := (List.getElem?_eq_some_iff.mp hu).1
      simpa using this
    refine wpAny_pyNext_enum_itemD (Draws.tuple (A := X.A.in1) (I.ok.hd hc) it a hai its.toArray) he ⟨hit, p⟩ hlt hne (by simp [hne, Ne.symm hae]) fun y h' tk hPy ho hst' hT hsz hk => ?_
    have hy : y = u := by
      have h1 : its.toArray[i]? = some y := hPy
      have h2 : its.toArray[i]? = some u := by simpa using hu
      rw [h1] at h2
      exact Option.some.inj h2
    subst hy
    refine ⟨_, rfl, wpAny_letOwnedTupleGo_enum (s := { s with heap := h', toks := tk + 1 }) ho fun h'' he' sb => ?_⟩
    have hT2 : h''.get? s.heap.objs.size = some { cls := .type "tuple", data := .seq #[.int i tk, y] } := (sb.2 _ (Nat.ne_of_gt hel)).trans hT
    have new : ObjOk X.prog X.w (upd H s.heap.objs.size (.tup [.int (i : Nat), x])) h'' s.heap.objs.size (.tup [.int (i : Nat), x]) :=
      ⟨by show 2 ≤ sizeLine; decide, [.int i tk, y], .cons ⟨_, rfl⟩ (.cons ru .nil), ⟨_, hT2, rfl, _, rfl⟩⟩
    have I1 : Inv X pins σ (upd H s.heap.objs.size (.tup [.int (i : Nat), x])) { s with heap := h'', toks := tk + 1 } :=
      I.turnedNew (ch := [e, it]) (fun b ob hb q => (sb.2 b (fun z => hb (by simp [z]))).trans (hk b ob (fun z => hb (by simp [z])) (fun z => hb (by simp [z])) q)) hf (Nat.le_refl _) new
    refine ⟨.ref s.heap.objs.size, _, I1, rfl, ⟨_, x, rfl, I.hok.fresh (Nat.le_refl _), rfl, fun ys hy => by rw [I.tuple_inj hy hq]; exact hx⟩, ⟨⟨y, ?_⟩, hst'.1.at fun o q => (sb.2 it (Ne.symm hne)).trans q, hne, hai, hae⟩, fun b hb => ?_⟩
    · have e1 : ((i + 1 : Nat) : Int) = (i : Int) + 1 := by omega
      rw [e1]; exact he'
    · have hb' : b < s.heap.objs.size := by
        have e' : b = e ∨ b = it := by simpa using hb
        rcases e' with z | z
        · rw [z]; exact hel
        · rw [z]; exact hil
      rw [upd_ne (Nat.ne_of_lt hb')]
      exact (hf b hb).1
  done := by
    intro X hP hw hK hc i pins s σ H E I hf st hg
    subst hP hw hK
    obtain ⟨⟨old, he⟩, hit, hne, hai, hae⟩ := st
    obtain ⟨xs, hq, hx⟩ := hg
    obtain ⟨its, rv, p, hz⟩ := I.tuple hq
    obtain ⟨f0, f1, f2, f3, f4, f5⟩ := hf it (by simp)
    have hl := rv.length
    have hn : its.toArray.size = i := by simp; omega
    exact wpAny_pyNext_enum_endD (Draws.tuple (A := X.A.in1) (I.ok.hd hc) it a hai its.toArray) he ⟨by rw [hn]; exact hit, p⟩ fun h' eb => ⟨rfl, I.turned (t' := s.toks) (fun b o hb q => eb b o hb q) f0 f1 f3 f4 f5⟩
  self := fun A i s Q E st h => let ⟨⟨_, he⟩, _⟩ := st; wpAny_pyIter_enum he h
def iEnumT (K : PySem.W.Frag) (ta : TA) : TI := fun σ H R => ta σ H fun vs H1 => ∃ a xs, vs = [.ref a] ∧ SqT K H1 a xs ∧ R (Iet K a) H1
theorem pi_enumT {X : Cx} {e : PySem.Expr} {ta : TA} {p pos tpos : Pos} {elts : List PySem.Expr} {kk : Nat} (hg : Gl X "enumerate") (hm : X.mg "enumerate" = none) (ha : PA X [e] ta) (hs : starEach [e] X.env = [(false, eval e X.env)]) :
    PI X (.Tuple elts kk tpos) (.Call (.Name "enumerate" p) [e] [] pos) (iEnumT X.K ta) := by
  refine ⟨fun pins s σ H R I h => ?_⟩
  refine Call_ (ld_blt I hg hm boot_enumerate (PyProof.Rows.callWith_type1 (thn (ha.run pos pins s σ H _ I h) fun us s1 ⟨vs, H1, I1, r1, q1⟩ => ?_) hs rfl))
  obtain ⟨a, xs, ex, hq, q⟩ := q1
  subst ex
  cases r1 with
  | cons r rr =>
    cases rr
    cases r
    obtain ⟨its, rv, p', hz⟩ := I1.tuple hq
    have hal : a < s1.heap.objs.size := by obtain ⟨_, q, _⟩ := p'; exact Heap.lt_size q
    refine call_enumT p' fun h' he hit hsz hk => wpAny_pyIter_enum he ?_
    have I2 : Inv X pins σ H1 { s1 with heap := h' } := I1.kept (t' := s1.toks) hk
    refine ⟨s1.heap.objs.size + 1, [s1.heap.objs.size + 1, s1.heap.objs.size], _, _, H1, rfl, I2, turn_enumT a (s1.heap.objs.size + 1) s1.heap.objs.size, ⟨⟨.none, he⟩, hit, Nat.succ_ne_self _, Nat.ne_of_lt hal, Nat.ne_of_lt (Nat.lt_succ_of_lt hal)⟩, fun b hb => ?_, q⟩
    have e' : b = s1.heap.objs.size + 1 ∨ b = s1.heap.objs.size := by simpa using hb
    have hle : s1.heap.objs.size ≤ b := by
      rcases e' with z | z
      · rw [z]; exact Nat.le_add_right _ _
      · rw [z]; exact Nat.le_refl _
    exact I1.fpOk hle (I1.hok.fresh hle)
end Bk
/-! BkD: calls of built-ins, subscripts, slices, truth, by data. -/
namespace Bk
open PySem PySem.Spec PyProof.Rows L2
section
variable {K : PySem.W.Frag} {S : Sg} {H : Hp} {h : Hq}
theorem RWs.one {xs : List Vv} {vs : List V} {d : D} (q : RWs K S H xs vs) (e : rdVs h xs = some [d]) : ∃ a v, xs = [a] ∧ vs = [v] ∧ RW K S H a v ∧ rdV h a = some d := by
  cases xs with
  | nil => simp [rdVs] at e
  | cons a r =>
    obtain ⟨v, t, rfl, q1, q2⟩ := q
    simp only [rdVs] at e
    obtain ⟨d1, e1, e2⟩ := Option.bind_eq_some_iff.mp e
    obtain ⟨ds, e3, e4⟩ := Option.map_eq_some_iff.mp e2
    cases e4
    cases r with
    | nil => cases q2; exact ⟨a, v, rfl, rfl, q1, e1⟩
    | cons b r =>
      simp only [rdVs] at e3
      obtain ⟨d2, _, e6⟩ := Option.bind_eq_some_iff.mp e3
      obtain ⟨_, _, e8⟩ := Option.map_eq_some_iff.mp e6
      cases e8
theorem RWs.two {xs : List Vv} {vs : List V} {d e : D} (q : RWs K S H xs vs) (he : rdVs h xs = some [d, e]) : ∃ a b v w, xs = [a, b] ∧ vs = [v, w] ∧ RW K S H a v ∧ RW K S H b w ∧ rdV h a = some d ∧ rdV h b = some e := by
  cases xs with
  | nil => simp [rdVs] at he
  | cons a r =>
    obtain ⟨v, t, rfl, q1, q2⟩ := q
    simp only [rdVs] at he
    obtain ⟨d1, e1, e2⟩ := Option.bind_eq_some_iff.mp he
    obtain ⟨ds, e3, e4⟩ := Option.map_eq_some_iff.mp e2
    cases e4
    obtain ⟨b, w, rfl, rfl, q3, e5⟩ := RWs.one q2 e3
    exact ⟨a, b, v, w, rfl, rfl, q1, q3, e1, e5⟩
theorem RVs.ints : ∀ {ds : List D} {vs : List V} {is : List Int}, RVs K S H ds vs → allInt ds = some is → vs = is.map V.int
  | [], vs, is, q, e => by cases e; rw [q.nil_iff]; rfl
  | d :: ds, vs, is, q, e => by
    obtain ⟨v, t, rfl, q1, q2⟩ := q.of_cons
    cases d with
    | int i =>
      simp only [allInt] at e
      obtain ⟨js, e1, rfl⟩ := Option.map_eq_some_iff.mp e
      unfold RV at q1
      rw [q1, RVs.ints q2 e1]; rfl
    | _ => simp [allInt] at e
theorem RVs.bls : ∀ {ds : List D} {vs : List V} {is : List Bool}, RVs K S H ds vs → allBl ds = some is → vs = is.map V.bl
  | [], vs, is, q, e => by cases e; rw [q.nil_iff]; rfl
  | d :: ds, vs, is, q, e => by
    obtain ⟨v, t, rfl, q1, q2⟩ := q.of_cons
    cases d with
    | bl i =>
      simp only [allBl] at e
      obtain ⟨js, e1, rfl⟩ := Option.map_eq_some_iff.mp e
      unfold RV at q1
      rw [q1, RVs.bls q2 e1]; rfl
    | _ => simp [allBl] at e
theorem RVs.texts : ∀ {ds : List D} {vs : List V} {is : List (List Nat)}, RVs K S H ds vs → allStr ds = some is → vs = (is.map fun s => Str.mk s.toArray).map V.str
  | [], vs, is, q, e => by cases e; rw [q.nil_iff]; rfl
  | d :: ds, vs, is, q, e => by
    obtain ⟨v, t, rfl, q1, q2⟩ := q.of_cons
    cases d with
    | str i =>
      simp only [allStr] at e
      obtain ⟨js, e1, rfl⟩ := Option.map_eq_some_iff.mp e
      unfold RV at q1
      rw [q1, RVs.texts q2 e1]; rfl
    | _ => simp [allStr] at e
end
theorem fold_min : ∀ (r : List Int) (x : Int), r.foldl (fun a b => if b < a then b else a) x ∈ x :: r ∧ ∀ y ∈ x :: r, r.foldl (fun a b => if b < a then b else a) x ≤ y
  | [], x => by simp
  | b :: r, x => by
    rw [List.foldl_cons]
    obtain ⟨h1, h2⟩ := fold_min r (if b < x then b else x)
    have ha : (if b < x then b else x) ≤ x := by split <;> omega
    have hb : (if b < x then b else x) ≤ b := by split <;> omega
    have h3 := h2 _ List.mem_cons_self
    refine ⟨?_, fun y hy => ?_⟩
    · rcases List.mem_cons.mp h1 with e | e
      · rw [e]; split <;> simp
      · exact List.mem_cons_of_mem _ (List.mem_cons_of_mem _ e)
    · rcases List.mem_cons.mp hy with rfl | hy
      · omega
      · rcases List.mem_cons.mp hy with rfl | hy
        · omega
        · exact h2 y (List.mem_cons_of_mem _ hy)
theorem fold_max : ∀ (r : List Int) (x : Int), r.foldl (fun a b => if b > a then b else a) x ∈ x :: r ∧ ∀ y ∈ x :: r, y ≤ r.foldl (fun a b => if b > a then b else a) x
  | [], x => by simp
  | b :: r, x => by
    rw [List.foldl_cons]
    obtain ⟨h1, h2⟩ := fold_max r (if b > x then b else x)
    have ha : x ≤ (if b > x then b else x) := by split <;> omega
    have hb : b ≤ (if b > x then b else x) := by split <;> omega
    have h3 := h2 _ List.mem_cons_self
    refine ⟨?_, fun y hy => ?_⟩
    · rcases List.mem_cons.mp h1 with e | e
      · rw [e]; split <;> simp
      · exact List.mem_cons_of_mem _ (List.mem_cons_of_mem _ e)
    · rcases List.mem_cons.mp hy with rfl | hy
      · omega
      · rcases List.mem_cons.mp hy with rfl | hy
        · omega
        · exact h2 y (List.mem_cons_of_mem _ hy)
theorem minL_ok {is : List Int} {m : Int} (e : minL is = some m) : 0 < is.length ∧ m ∈ is ∧ ∀ y ∈ is, m ≤ y := by
  cases is with
  | nil => simp [minL] at e
  | cons x r =>
    simp only [minL] at e
    cases e
    exact ⟨by simp, fold_min r x⟩
theorem maxL_ok {is : List Int} {m : Int} (e : maxL is = some m) : 0 < is.length ∧ m ∈ is ∧ ∀ y ∈ is, y ≤ m := by
  cases is with
  | nil => simp [maxL] at e
  | cons x r =>
    simp only [maxL] at e
    cases e
    exact ⟨by simp, fold_max r x⟩

/-- a built-in of some values -/
def rBl (K : PySem.W.Frag) (f : List D → Option D) : List V → Hp → VK → Prop := fun vs H Q => ∃ S h xs ds z, RelH K S H h ∧ RWs K S H xs vs ∧ rdVs h xs = some ds ∧ f ds = some z ∧ Dl K S H h z Q
section
variable {X : Cx}
theorem cR_len : CallR X (.builtin "len") (rBl X.K lenD) := by
  intro pins s σ H vs us Q I rr h
  obtain ⟨S, h, xs, ds, z, r, rx, e, hz, dl⟩ := h
  unfold lenD at hz
  split at hz
  · split at hz
    · rename_i hl
      cases hz
      obtain ⟨a, v, rfl, rfl, ra, ea⟩ := rx.one e
      have hs := ra.str r ea
      subst hs
      refine call_len pins s σ H _ us Q I rr ⟨_, _, rfl, ⟨?_, rfl⟩, ?_⟩
      · simp only [Str.length, List.size_toArray]; exact Nat.le_trans hl lim_le
      · simp only [Str.length, List.size_toArray]; exact dl.int r
    · cases hz
  · cases hz
    obtain ⟨a, v, rfl, rfl, ra, ea⟩ := rx.one e
    obtain ⟨p, ws, rfl, t, q⟩ := ra.tup r ea
    refine call_len pins s σ H _ us Q I rr ⟨_, ws.length, rfl, .inr ⟨ws, t, rfl⟩, ?_⟩
    rw [q.length]
    exact dl.int r
  · cases hz
    obtain ⟨a, v, rfl, rfl, ra, ea⟩ := rx.one e
    obtain ⟨p, ws, rfl, t, q⟩ := ra.lst r ea
    refine call_len pins s σ H _ us Q I rr ⟨_, ws.length, rfl, .inl ⟨ws, SqL.of t, rfl⟩, ?_⟩
    rw [q.length]
    exact dl.int r
  · cases hz
theorem cR_min (hc : X.calm = true) (hu : X.A.units + 1 < cLine) : CallR X (.builtin "min") (rBl X.K minD) := by
  intro pins s σ H vs us Q I rr h
  obtain ⟨S, h, xs, ds, z, r, rx, e, hz, dl⟩ := h
  unfold minD at hz
  split at hz
  · cases hz
    obtain ⟨a, b, v, w, rfl, rfl, ra, rb, ea, eb⟩ := rx.two e
    have h1 := ra.int r ea
    have h2 := rb.int r eb
    subst h1 h2
    exact call_min2 hc pins s σ H _ us Q I rr ⟨_, _, rfl, dl.int r⟩
  · split at hz
    · rename_i is hi
      obtain ⟨m, hm, rfl⟩ := Option.map_eq_some_iff.mp hz
      obtain ⟨a, v, rfl, rfl, ra, ea⟩ := rx.one e
      obtain ⟨p, ws, rfl, t, q⟩ := ra.lst r ea
      obtain ⟨h1, h2, h3⟩ := minL_ok hm
      have hw := q.ints hi
      subst hw
      refine cr_min hc pins s σ H _ us Q I rr ⟨p, is, rfl, SqL.of t, h1, fun m' e1 e2 => ?_⟩
      have : m' = m := Int.le_antisymm (e2 m h2) (h3 m' e1)
      subst this
      exact dl.int r
    · obtain ⟨ns, hn, hz⟩ := Option.bind_eq_some_iff.mp hz
      obtain ⟨h0, rfl⟩ := bestQ_ok hz
      obtain ⟨a, v, rfl, rfl, ra, ea⟩ := rx.one e
      obtain ⟨p, ws, rfl, t, q⟩ := ra.lst r ea
      obtain ⟨ps, rfl, pr⟩ := RVs.pairs hn q
      refine cr_minP hc hu pins s σ H _ us Q I rr ⟨p, ps, ns, rfl, SqL.of t, pr, h0, fun p1 e1 => ?_⟩
      obtain ⟨n, e2, hn2⟩ := paired_get pr e1
      refine dl S (.ref p1) H (Ext.refl _ _) r ?_
      rw [List.getD_eq_getElem?_getD, e2]
      unfold RV
      exact ⟨p1, _, rfl, hn2, .cons (by unfold RV; rfl) (.cons (by unfold RV; rfl) .nil)⟩
  · cases hz
theorem cR_max (hc : X.calm = true) (hu : X.A.units + 1 < cLine) : CallR X (.builtin "max") (rBl X.K maxD) := by
  intro pins s σ H vs us Q I rr h
  obtain ⟨S, h, xs, ds, z, r, rx, e, hz, dl⟩ := h
  unfold maxD at hz
  split at hz
  · cases hz
    obtain ⟨a, b, v, w, rfl, rfl, ra, rb, ea, eb⟩ := rx.two e
    have h1 := ra.int r ea
    have h2 := rb.int r eb
    subst h1 h2
    exact call_max2 hc pins s σ H _ us Q I rr ⟨_, _, rfl, dl.int r⟩
  · split at hz
    · rename_i is hi
      obtain ⟨m, hm, rfl⟩ := Option.map_eq_some_iff.mp hz
      obtain ⟨a, v, rfl, rfl, ra, ea⟩ := rx.one e
      obtain ⟨p, ws, rfl, t, q⟩ := ra.lst r ea
      obtain ⟨h1, h2, h3⟩ := maxL_ok hm
      have hw := q.ints hi
      subst hw
      refine cr_max hc pins s σ H _ us Q I rr ⟨p, is, rfl, SqL.of t, h1, fun m' e1 e2 => ?_⟩
      have : m' = m := Int.le_antisymm (h3 m' e1) (e2 m h2)
      subst this
      exact dl.int r
    · obtain ⟨ns, hn, hz⟩ := Option.bind_eq_some_iff.mp hz
      obtain ⟨h0, rfl⟩ := bestQ_ok hz
      obtain ⟨a, v, rfl, rfl, ra, ea⟩ := rx.one e
      obtain ⟨p, ws, rfl, t, q⟩ := ra.lst r ea
      obtain ⟨ps, rfl, pr⟩ := RVs.pairs hn q
      refine cr_maxP hc hu pins s σ H _ us Q I rr ⟨p, ps, ns, rfl, SqL.of t, pr, h0, fun p1 e1 => ?_⟩
      obtain ⟨n, e2, hn2⟩ := paired_get pr e1
      refine dl S (.ref p1) H (Ext.refl _ _) r ?_
      rw [List.getD_eq_getElem?_getD, e2]
      unfold RV
      exact ⟨p1, _, rfl, hn2, .cons (by unfold RV; rfl) (.cons (by unfold RV; rfl) .nil)⟩
  · cases hz
section
variable {prog : Program} {w : World} {A : Around} {E : Value → Shared → Prop} {s : Shared} {l : Addr}
theorem sum_intTup {xs : Array (Int × PySem.Tok)} {Q : Value → Shared → Prop} (hh : A.handled = none) (hl : s.heap.IsTuple l (intItems xs))
    (h : ∀ h' tk t', (∀ b o, s.heap.get? b = some o → h'.get? b = some o) → Q (.int (preSum (numAt xs) xs.size) t') { s with heap := h', toks := tk }) :
    wpAny (model prog w) A (call (.builtin "sum") [.ref l]) Q E s := by
  have hlt : l < s.heap.objs.size := by obtain ⟨_, e, _⟩ := hl; exact Heap.lt_size e
  refine call_sum_walkG (wpAny_pyIter_tuple hl ?_)
  refine ⟨_, [_, l], [_], _, _, _, numAt xs, rfl, Walks.tuple (A := A.in1) hh _ l (Nat.ne_of_lt hlt) (intItems xs), ⟨⟨_, Heap.get?_push_size _ rfl, rfl, rfl⟩, hl.push _⟩, fun c hc => ?_, (fun _ _ => intItems_at), fun h' tk t' hk => ?_⟩
  · show c < (s.heap.push _).objs.size
    rw [Heap.size_push]
    rcases List.mem_cons.mp hc with rfl | hc
    · exact Nat.lt_succ_self _
    · rcases List.mem_cons.mp hc with rfl | hc
      · exact Nat.lt_succ_of_lt hlt
      · cases hc
  · have hold : ∀ c o, s.heap.get? c = some o → h'.get? c = some o := fun c o e => by
      refine hk c o (fun hm => ?_) (Heap.get?_push_of_some _ e)
      rcases List.mem_cons.mp hm with e1 | hm
      · have := Heap.lt_size e; rw [e1] at this; exact Nat.lt_irrefl _ this
      · cases hm
    have := h h' tk t' hold
    simpa [intItems] using this
theorem sum_rawT {its : List Value} {ns : List Int} {Q : Value → Shared → Prop} (hh : A.handled = none) (hl : s.heap.IsTuple l its.toArray) (hi : IntsAre its ns)
    (h : ∀ h' tk t', (∀ b o, s.heap.get? b = some o → h'.get? b = some o) → Q (.int ns.sum t') { s with heap := h', toks := tk }) : wpAny (model prog w) A (call (.builtin "sum") [.ref l]) Q E s := by
  obtain ⟨xs, e⟩ := hi.allInts.items
  have hn : numsOf (intItems xs).toList = ns := by rw [← e]; exact hi.numsOf
  rw [nums_intItems] at hn
  rw [e] at hl
  refine sum_intTup hh hl fun h' tk t' hk => ?_
  have := h h' tk t' hk
  rw [preSum_eq, List.take_of_length_le (by simp), hn]; exact this
end
theorem cr_sumT (hc : X.calm = true) : CallR X (.builtin "sum") (fun vs H Q => ∃ (a : Addr) (ns : List Int), vs = [V.ref a] ∧ SqT X.K H a (ns.map V.int) ∧ Q (.int ns.sum) H) := by
  intro pins s σ H vs us Q I r h
  obtain ⟨a, ns, rfl, hs, q⟩ := h
  obtain ⟨its, rv, hl, _⟩ := I.tuple hs
  rw [Vals.ref1 r]
  exact sum_rawT (I.ok.hd hc) hl rv.ints fun h' tk t' hk => ⟨.int _, H, I.kept hk, ⟨_, rfl⟩, q⟩
theorem cR_sum (hc : X.calm = true) : CallR X (.builtin "sum") (rBl X.K sumD) := by
  intro pins s σ H vs us Q I rr h
  obtain ⟨S, h, xs, ds, z, r, rx, e, hz, dl⟩ := h
  unfold sumD at hz
  split at hz
  · obtain ⟨is, hi, rfl⟩ := Option.map_eq_some_iff.mp hz
    obtain ⟨a, v, rfl, rfl, ra, ea⟩ := rx.one e
    obtain ⟨p, ws, rfl, t, q⟩ := ra.lst r ea
    have hw := q.ints hi
    subst hw
    exact cr_sum hc pins s σ H _ us Q I rr ⟨p, is, rfl, SqL.of t, dl.int r⟩
  · obtain ⟨is, hi, rfl⟩ := Option.map_eq_some_iff.mp hz
    obtain ⟨a, v, rfl, rfl, ra, ea⟩ := rx.one e
    obtain ⟨p, ws, rfl, t, q⟩ := ra.tup r ea
    have hw := q.ints hi
    subst hw
    exact cr_sumT hc pins s σ H _ us Q I rr ⟨p, is, rfl, t, dl.int r⟩
  · cases hz
theorem cR_all (hc : X.calm = true) : CallR X (.builtin "all") (rBl X.K allD) := by
  intro pins s σ H vs us Q I rr h
  obtain ⟨S, h, xs, ds, z, r, rx, e, hz, dl⟩ := h
  unfold allD at hz
  split at hz
  · obtain ⟨is, hi, rfl⟩ := Option.map_eq_some_iff.mp hz
    obtain ⟨a, v, rfl, rfl, ra, ea⟩ := rx.one e
    obtain ⟨p, ws, rfl, t, q⟩ := ra.lst r ea
    have hw := q.bls hi
    subst hw
    exact cr_all hc pins s σ H _ us Q I rr ⟨p, is, rfl, SqL.of t, dl.bl r⟩
  · cases hz
theorem cR_any (hc : X.calm = true) : CallR X (.builtin "any") (rBl X.K anyD) := by
  intro pins s σ H vs us Q I rr h
  obtain ⟨S, h, xs, ds, z, r, rx, e, hz, dl⟩ := h
  unfold anyD at hz
  split at hz
  · obtain ⟨is, hi, rfl⟩ := Option.map_eq_some_iff.mp hz
    obtain ⟨a, v, rfl, rfl, ra, ea⟩ := rx.one e
    obtain ⟨p, ws, rfl, t, q⟩ := ra.lst r ea
    have hw := q.bls hi
    subst hw
    exact cr_any hc pins s σ H _ us Q I rr ⟨p, is, rfl, SqL.of t, dl.bl r⟩
  · cases hz
theorem cR_tuple : CallR X (.type "tuple") (rBl X.K tupleD) := by
  intro pins s σ H vs us Q I rr h
  obtain ⟨S, h, xs, ds, z, r, rx, e, hz, dl⟩ := h
  unfold tupleD at hz
  split at hz
  · cases hz
    obtain ⟨a, v, rfl, rfl, ra, ea⟩ := rx.one e
    obtain ⟨p, ws, rfl, t, q⟩ := ra.lst r ea
    exact call_tuple_of pins s σ H _ us Q I rr ⟨p, ws, rfl, .inl ⟨SqL.of t, dl.tup r q⟩⟩
  · cases hz
    obtain ⟨a, v, rfl, rfl, ra, ea⟩ := rx.one e
    obtain ⟨p, ws, rfl, t, q⟩ := ra.tup r ea
    exact call_tuple_of pins s σ H _ us Q I rr ⟨p, ws, rfl, .inr ⟨t, dl.tupAt r t q⟩⟩
  · cases hz
theorem cR_list : CallR X (.type "list") (rBl X.K listD) := by
  intro pins s σ H vs us Q I rr h
  obtain ⟨S, h, xs, ds, z, r, rx, e, hz, dl⟩ := h
  unfold listD at hz
  split at hz
  · cases hz
    obtain ⟨a, v, rfl, rfl, ra, ea⟩ := rx.one e
    obtain ⟨p, ws, rfl, t, q⟩ := ra.lst r ea
    exact call_list_of pins s σ H _ us Q I rr ⟨p, ws, rfl, .inl (SqL.of t), dl.lst r q⟩
  · cases hz
    obtain ⟨a, v, rfl, rfl, ra, ea⟩ := rx.one e
    obtain ⟨p, ws, rfl, t, q⟩ := ra.tup r ea
    exact call_list_of pins s σ H _ us Q I rr ⟨p, ws, rfl, .inr t, dl.lst r q⟩
  · cases hz
theorem cR_abs : CallR X (.builtin "abs") (rBl X.K absD) := by
  intro pins s σ H vs us Q I rr h
  obtain ⟨S, h, xs, ds, z, r, rx, e, hz, dl⟩ := h
  unfold absD at hz
  split at hz
  · cases hz
    obtain ⟨a, v, rfl, rfl, ra, ea⟩ := rx.one e
    have h1 := ra.int r ea
    subst h1
    exact call_abs pins s σ H _ us Q I rr ⟨_, rfl, dl.int r⟩
  · cases hz
theorem cR_no {f : Value} : CallR X f (rBl X.K fun _ => none) := by
  intro pins s σ H vs us Q I rr h
  obtain ⟨S, h, xs, ds, z, r, rx, e, hz, dl⟩ := h
  cases hz

/-! ### isinstance -/
def ityS : Ity → String
  | .int => "int" | .bool => "bool" | .str => "str" | .tuple => "tuple" | .list => "list"
def tyS : D → String
  | .non => "NoneType" | .bl _ => "bool" | .int _ => "int" | .str _ => "str" | .tup _ => "tuple" | .lst _ => "list" | .opq _ => ""
theorem ity_kit : ∀ (t : Ity) (d : D) (b : Bool), ityD t d = some b → kitB (tyS d) (ityS t) = some b := by
  intro t d b h
  cases t <;> cases d <;> first
    | (simp [ityD] at h; done)
    | (simp only [ityD] at h; cases h; simp only [tyS, ityS]; decide +kernel)
theorem RW.tyX {K : PySem.W.Frag} {S : Sg} {H : Hp} {h : Hq} {a : Vv} {x : V} {p : D} (r : RelH K S H h) (ra : RW K S H a x) (ea : rdV h a = some p) (hn : ∀ n, p ≠ .opq n) : TyX K H x (.type (tyS p)) := by
  rcases ra.view r ea with q | ⟨ds, c, vs, rfl, rfl, e3, _⟩
  · cases p with
    | non => unfold RV at q; subst q; exact .base .non
    | bl b => unfold RV at q; subst q; exact .base (.bl b)
    | int i => unfold RV at q; subst q; exact .base (.int i)
    | str s => unfold RV at q; subst q; exact .base (.str _)
    | tup xs =>
      unfold RV at q
      obtain ⟨c, vs, rfl, t, _⟩ := q
      rcases t with (t | ⟨o, t⟩) | ⟨o, _, _, t, t2, _⟩
      · exact .base (.tup t)
      · exact .fTuple t
      · exact .kTuple t t2
    | lst xs =>
      unfold RV at q
      obtain ⟨c, vs, rfl, t, _⟩ := q
      exact .base (.lst t)
    | opq n => exact absurd rfl (hn n)
  · exact .base (.lst e3)

/-! ### subscripts, slices, truth -/
theorem atD_eq {α : Type} (xs : List α) (i : Int) : atD xs i = atI xs i := rfl
theorem RVs.atI {K : PySem.W.Frag} {S : Sg} {H : Hp} {ds : List D} {vs : List V} {i : Int} {d : D} (q : RVs K S H ds vs) (e : atD ds i = some d) : ∃ v, atI vs i = some v ∧ RV K S H d v := by
  unfold atD at e
  obtain ⟨j, e1, e2⟩ := Option.bind_eq_some_iff.mp e
  obtain ⟨v, e3, r⟩ := q.get e2
  refine ⟨v, ?_, r⟩
  unfold L2.atI
  rw [q.length]
  have : ixN ds.length i = some j := e1
  rw [this]
  exact e3
theorem iR_sub : IxR X (rOp X.K subD) := by
  intro value slice pins s σ H x y v u Q I rx ry h hs
  obtain ⟨S, h, a, b, p, q, z, r, ra, rb, ea, eb, hz, dl⟩ := h
  unfold subD at hz
  split at hz
  · obtain ⟨p1, vs, rfl, t1, q1⟩ := ra.tup r ea
    obtain ⟨w, e1, rw1⟩ := q1.atI hz
    exact ix_tup value slice pins s σ H _ y v u Q I rx ry ⟨p1, vs, _, w, rfl, rb.int r eb, t1, e1, dl.here r rw1⟩ hs
  · obtain ⟨p1, vs, rfl, t1, q1⟩ := ra.lst r ea
    obtain ⟨w, e1, rw1⟩ := q1.atI hz
    exact ix_list value slice pins s σ H _ y v u Q I rx ry ⟨p1, vs, _, w, rfl, rb.int r eb, SqL.of t1, e1, dl.here r rw1⟩ hs
  · split at hz
    · rename_i hl
      obtain ⟨c, e1, rfl⟩ := Option.map_eq_some_iff.mp hz
      refine ix_str value slice pins s σ H x y v u Q I rx ry ⟨_, _, c, ra.str r ea, rb.int r eb, ?_, ?_, dl.str r rfl⟩ hs
      · simp only [Str.length, List.size_toArray]; exact Nat.le_trans hl lim_le
      · simp only [List.toList_toArray]; exact e1
    · cases hz
  · cases hz
def rSl (K : PySem.W.Frag) : V → Option Int → Option Int → Hp → VK → Prop := fun x lo hi H Q => ∃ S h a p z, RelH K S H h ∧ RW K S H a x ∧ rdV h a = some p ∧ slcD p lo hi = some z ∧ Dl K S H h z Q
theorem sIxD_eq (n d : Nat) (o : Option Int) : sIxD n d o = HT.sIx n d o := by cases o <;> rfl
theorem RVs.cut {K : PySem.W.Frag} {S : Sg} {H : Hp} {ds : List D} {vs : List V} (q : RVs K S H ds vs) (lo hi : Option Int) : RVs K S H (cutD ds lo hi) (cutV vs lo hi) := by
  unfold cutD cutV
  rw [q.length, sIxD_eq, sIxD_eq]
  exact (q.drop _).take _
theorem sR_slc : SlR X (rSl X.K) := by
  intro pins s σ H x v vl vu lo hi sl Q I rx hs pl pu h
  obtain ⟨S, h, a, p, z, r, ra, ea, hz, dl⟩ := h
  unfold slcD at hz
  split at hz
  · cases hz
    obtain ⟨p1, vs, rfl, t1, q1⟩ := ra.tup r ea
    refine sl_tupA pins s σ H _ v vl vu _ _ sl Q I rx hs pl pu ⟨p1, vs, rfl, t1, fun e => ?_, fun _ => dl.tup r (q1.cut _ _)⟩
    refine dl.tupAt r t1 ?_
    have q2 := q1.cut lo hi
    have e2 : cutV vs lo hi = vs := by
      unfold cutV
      rw [e.1, e.2]
      simp
    rw [e2] at q2
    exact q2
  · cases hz
    obtain ⟨p1, vs, rfl, t1, q1⟩ := ra.lst r ea
    exact sl_list pins s σ H _ v vl vu _ _ sl Q I rx hs pl pu ⟨p1, vs, rfl, SqL.of t1, dl.lst r (q1.cut _ _)⟩
  · split at hz
    · rename_i hl
      cases hz
      refine sl_str pins s σ H x v vl vu _ _ sl Q I rx hs pl pu ⟨_, ra.str r ea, ?_, dl.str r ?_⟩
      · simp only [Str.length, List.size_toArray]; exact Nat.le_trans hl lim_le
      · unfold cutS cutD
        simp only [Str.length, List.size_toArray, sIxD_eq]
    · cases hz
  · cases hz
theorem RW.tru {K : PySem.W.Frag} {S : Sg} {H : Hp} {h : Hq} {a : Vv} {x : V} {p : D} {k : Bool} (r : RelH K S H h) (ra : RW K S H a x) (ea : rdV h a = some p) (e : truD p = some k) : TruV K x H k := by
  cases p with
  | non => have := ra.non r ea; subst this; cases e; rfl
  | bl b => have := ra.bl r ea; subst this; cases e; rfl
  | int i => have := ra.int r ea; subst this; cases e; rfl
  | str s =>
    have := ra.str r ea
    subst this
    simp only [truD] at e
    split at e
    · rename_i hl
      cases e
      refine ⟨?_, ?_⟩
      · simp only [Str.length, List.size_toArray]; exact Nat.le_trans hl lim_le
      · simp only [Str.length, List.size_toArray]
        cases s with
        | nil => rfl
        | cons a t =>
          rw [List.length_cons]
          show (!false) = _
          have h0 : ((t.length + 1 : Nat) : Int) ≠ 0 := by omega
          exact (bne_iff_ne.mpr h0).symm
    · cases e
  | tup xs =>
    obtain ⟨p1, vs, rfl, t1, q1⟩ := ra.tup r ea
    cases e
    refine .inr (.inl ⟨vs, t1, ?_⟩)
    have := q1.length
    cases xs <;> cases vs <;> simp at this ⊢
  | lst xs =>
    obtain ⟨p1, vs, rfl, t1, q1⟩ := ra.lst r ea
    cases e
    refine .inl ⟨vs, SqL.of t1, ?_⟩
    have := q1.length
    cases xs <;> cases vs <;> simp at this ⊢
  | opq n => cases e
/-- text.join -/
theorem joinS_eq (s : List Nat) : ∀ ss : List (List Nat), Str.mk (joinS s ss).toArray = Str.join ⟨s.toArray⟩ (ss.map fun t => Str.mk t.toArray)
  | [] => rfl
  | [x] => rfl
  | x :: y :: r => by
    have ih := joinS_eq s (y :: r)
    show Str.mk (x ++ s ++ joinS s (y :: r)).toArray = Str.mk x.toArray ++ Str.mk s.toArray ++ Str.join ⟨s.toArray⟩ ((y :: r).map fun t => Str.mk t.toArray)
    rw [← ih]
    show Str.mk _ = Str.mk ((x.toArray ++ s.toArray) ++ (joinS s (y :: r)).toArray)
    simp
def rMt (K : PySem.W.Frag) (f : D → D → Option D) : V → List V → Hp → VK → Prop := fun x ys H Q => ∃ y, ys = [y] ∧ rOp K f x y H Q
theorem mR_join : MtR X "str.join" (rMt X.K (mthD .join)) := by
  intro pins st σ H x ys v us Q I rx rs h
  obtain ⟨y, rfl, S, h, a, b, p, q, z, r, ra, rb, ea, eb, hz, dl⟩ := h
  replace hz : joinD p q = some z := hz
  unfold joinD at hz
  split at hz
  · obtain ⟨ss, hs, hz⟩ := Option.bind_eq_some_iff.mp hz
    split at hz
    · rename_i hl
      cases hz
      obtain ⟨p1, vs, rfl, t1, q1⟩ := rb.lst r eb
      have hw := q1.texts hs
      subst hw
      refine mt_join pins st σ H x _ v us Q I rx rs ⟨_, p1, _, ra.str r ea, rfl, .inl (SqL.of t1), ?_, dl.str r ?_⟩
      · simp only [List.map_map, List.length_map, Str.length, List.size_toArray]
        have e : (ss.map ((fun x => x.cps.size) ∘ fun s => Str.mk s.toArray)) = ss.map List.length := by
          refine List.map_congr_left fun t _ => ?_
          simp
        rw [e]
        exact Nat.le_trans hl (by decide)
      · rw [TL.join_eq, joinS_eq]
    · cases hz
  · cases hz
theorem splS_eq {c : Nat} : ∀ (s acc : List Nat), splS c acc s = TL.spl [c] 0 acc s
  | [], acc => by rw [TL.spl_nil]; rfl
  | x :: r, acc => by
    rw [splS]
    by_cases h : x = c
    · subst h
      rw [if_pos rfl, TL.spl_hit (by simp [TL.pre]), splS_eq r []]
      rfl
    · rw [if_neg h, splS_eq r]
      rw [TL.spl, if_neg (by simp [TL.pre, h])]
theorem splS_len {c : Nat} : ∀ (s acc : List Nat), (splS c acc s).length ≤ s.length + 1
  | [], acc => by simp [splS]
  | x :: r, acc => by
    rw [splS]
    split
    · have := splS_len (c := c) r []
      rw [List.length_cons, List.length_cons]
      omega
    · have := splS_len (c := c) r (acc ++ [x])
      rw [List.length_cons]
      omega
theorem RVs.strs {K : PySem.W.Frag} {S : Sg} {H : Hp} : ∀ l : List (List Nat), RVs K S H (l.map D.str) (l.map fun s => V.str ⟨s.toArray⟩)
  | [] => .nil
  | s :: l => .cons (by unfold RV; rfl) (RVs.strs l)
theorem mR_split : MtR X "str.split" (rMt X.K (mthD .split)) := by
  intro pins st σ H x ys v us Q I rx rs h
  obtain ⟨y, rfl, S, h, a, b, p, q, z, r, ra, rb, ea, eb, hz, dl⟩ := h
  replace hz : splitD p q = some z := hz
  unfold splitD at hz
  split at hz
  · rename_i s c
    split at hz
    · rename_i hc
      cases hz
      have h1 := ra.str r ea
      have h2 := rb.str r eb
      subst h1 h2
      refine mt_split pins st σ H _ _ v us Q I rx rs ⟨_, _, rfl, rfl, by simp [Str.length], ?_, ?_⟩
      · show s.toArray.size + 2 ≤ sizeLine
        rw [List.size_toArray]
        exact Nat.le_trans (show s.length + 2 ≤ 1002 by omega) (by decide)
      · have e1 := SX.split_S (a := s) (b := [c]) (by simp) (by simp; omega)
        have e2 : Txt.split ⟨s.toArray⟩ ⟨[c].toArray⟩ = (TL.spl [c] 0 [] s).map fun t => Str.mk t.toArray := e1
        rw [e2, ← splS_eq]
        intro p hp
        rw [List.map_map]
        exact dl.lst r (RVs.strs _) p hp
    · cases hz
  · cases hz
theorem cR_str : CallR X (.type "str") (rBl X.K strD) := by
  intro pins s σ H vs us Q I rr h
  obtain ⟨S, h, xs, ds, z, r, rx, e, hz, dl⟩ := h
  unfold strD at hz
  split at hz
  · cases hz
    obtain ⟨a, v, rfl, rfl, ra, ea⟩ := rx.one e
    have h1 := ra.str r ea
    subst h1
    exact SkE.call_str_str pins s σ H _ us Q I rr ⟨_, rfl, dl.str r rfl⟩
  · rename_i i
    split at hz
    · rename_i hi
      obtain ⟨t, ht, rfl⟩ := Option.map_eq_some_iff.mp hz
      obtain ⟨a, v, rfl, rfl, ra, ea⟩ := rx.one e
      have h1 := ra.int r ea
      subst h1
      obtain ⟨n, rfl⟩ : ∃ n : Nat, i = (n : Int) := ⟨i.toNat, by omega⟩
      rw [Int.toNat_natCast] at ht
      have hn : n < 10 := by
        unfold digits at ht
        split at ht <;> first | omega | cases ht
      refine call_str_int pins s σ H _ us Q I rr ⟨_, rfl, ?_, dl.str r ?_⟩
      · match n, hn with
        | 0, _ => decide
        | 1, _ => decide
        | 2, _ => decide
        | 3, _ => decide
        | 4, _ => decide
        | 5, _ => decide
        | 6, _ => decide
        | 7, _ => decide
        | 8, _ => decide
        | 9, _ => decide
      · match n, hn, ht with
        | 0, _, ht => cases ht; decide +kernel
        | 1, _, ht => cases ht; decide +kernel
        | 2, _, ht => cases ht; decide +kernel
        | 3, _, ht => cases ht; decide +kernel
        | 4, _, ht => cases ht; decide +kernel
        | 5, _, ht => cases ht; decide +kernel
        | 6, _, ht => cases ht; decide +kernel
        | 7, _, ht => cases ht; decide +kernel
        | 8, _, ht => cases ht; decide +kernel
        | 9, _, ht => cases ht; decide +kernel
    · cases hz
  · cases hz
theorem call_int_txt {t : List Nat} {n : Int} (hn : PySem.intText? ⟨t.toArray⟩ = some n) (hl : t.length ≤ 640) : CallR X (.type "int") (fun xs H Q => xs = [.str ⟨t.toArray⟩] ∧ Q (.int n) H) := by
  intro pins s σ H xs us Q I r h
  obtain ⟨rfl, q⟩ := h
  obtain ⟨u, rfl, tk, rfl⟩ := vals1 r
  exact PySem.W.KIN.call_text hn (by simpa [Str.length] using hl) ⟨.int _, H, I.tok _, ⟨_, rfl⟩, q⟩
theorem cR_int : CallR X (.type "int") (rBl X.K intD) := by
  intro pins s σ H vs us Q I rr h
  obtain ⟨S, h, xs, ds, z, r, rx, e, hz, dl⟩ := h
  unfold intD at hz
  split at hz
  · cases hz
    obtain ⟨a, v, rfl, rfl, ra, ea⟩ := rx.one e
    have h1 := ra.int r ea
    subst h1
    exact call_int1 pins s σ H _ us Q I rr (.inl ⟨_, rfl, dl.int r⟩)
  all_goals first
    | (cases hz
       obtain ⟨a, v, rfl, rfl, ra, ea⟩ := rx.one e
       have h1 := ra.str r ea
       subst h1
       exact call_int_txt (by decide +kernel) (by decide) pins s σ H _ us Q I rr ⟨rfl, dl.int r⟩)
    | cases hz
end
end Bk
/-! Bks: sorted(set(..)) of pairs of ints. -/
namespace Bk
open PySem PySem.Spec PyProof.Rows L2
theorem ltP_iff (a b : Int × Int) : ltP a b = true ↔ a.1 < b.1 ∨ (a.1 = b.1 ∧ a.2 < b.2) := by
  unfold ltP
  split
  · rename_i h
    rw [decide_eq_true_iff]
    omega
  · rename_i h
    rw [decide_eq_true_iff]
    omega
theorem mem_insQ {p x : Int × Int} : ∀ {l : List (Int × Int)}, x ∈ insQ p l ↔ x = p ∨ x ∈ l
  | [] => by simp [insQ]
  | q :: r => by
    rw [insQ]
    split
    · simp
    · split
      · rename_i h
        subst h
        simp
      · rw [List.mem_cons, mem_insQ, List.mem_cons]
        constructor
        · rintro (h | h | h) <;> simp [h]
        · rintro (h | h | h) <;> simp [h]
theorem mem_sortQ {x : Int × Int} : ∀ {l : List (Int × Int)}, x ∈ sortQ l ↔ x ∈ l
  | [] => Iff.rfl
  | p :: l => by rw [sortQ, mem_insQ, mem_sortQ, List.mem_cons]
theorem insQ_pw {p : Int × Int} : ∀ {l : List (Int × Int)}, l.Pairwise (fun a b => ltP a b = true) → (insQ p l).Pairwise fun a b => ltP a b = true
  | [], _ => by simp [insQ]
  | q :: r, h => by
    obtain ⟨h1, h2⟩ := List.pairwise_cons.mp h
    rw [insQ]
    split
    · rename_i hp
      refine List.pairwise_cons.mpr ⟨fun x hx => ?_, h⟩
      rcases List.mem_cons.mp hx with rfl | hx
      · exact hp
      · have := h1 x hx
        rw [ltP_iff] at hp this ⊢
        omega
    · rename_i hp
      split
      · exact h
      · rename_i hne
        refine List.pairwise_cons.mpr ⟨fun x hx => ?_, insQ_pw h2⟩
        rcases mem_insQ.mp hx with rfl | hx
        · rw [ltP_iff] at hp ⊢
          have : ¬ (x.1 = q.1 ∧ x.2 = q.2) := fun z => hne (Prod.ext z.1 z.2)
          omega
        · exact h1 x hx
theorem sortQ_pw : ∀ l : List (Int × Int), (sortQ l).Pairwise fun a b => ltP a b = true
  | [] => .nil
  | p :: l => insQ_pw (sortQ_pw l)
theorem sorted_ext : ∀ {l m : List (Int × Int)}, l.Pairwise (fun a b => ltP a b = true) → m.Pairwise (fun a b => ltP a b = true) → (∀ x, x ∈ l ↔ x ∈ m) → l = m
  | [], [], _, _, _ => rfl
  | [], y :: m, _, _, h => by have := (h y).mpr List.mem_cons_self; cases this
  | x :: l, [], _, _, h => by have := (h x).mp List.mem_cons_self; cases this
  | x :: l, y :: m, h1, h2, h => by
    obtain ⟨a1, a2⟩ := List.pairwise_cons.mp h1
    obtain ⟨b1, b2⟩ := List.pairwise_cons.mp h2
    have irr : ∀ z : Int × Int, ¬ ltP z z = true := fun z q => by rw [ltP_iff] at q; omega
    have e : x = y := by
      rcases List.mem_cons.mp ((h x).mp List.mem_cons_self) with e | e
      · exact e
      · rcases List.mem_cons.mp ((h y).mpr List.mem_cons_self) with e' | e'
        · exact e'.symm
        · have q1 := b1 x e
          have q2 := a1 y e'
          rw [ltP_iff] at q1 q2
          exfalso
          omega
    subst e
    rw [sorted_ext a2 b2 fun z => ?_]
    constructor
    · intro hz
      rcases List.mem_cons.mp ((h z).mp (List.mem_cons_of_mem _ hz)) with rfl | q
      · exact absurd (a1 z hz) (irr z)
      · exact q
    · intro hz
      rcases List.mem_cons.mp ((h z).mpr (List.mem_cons_of_mem _ hz)) with rfl | q
      · exact absurd (b1 z hz) (irr z)
      · exact q
section
variable {X : Cx} {S : Sg} {H : Hp} {h : Hq}
/-- the pairs with their addresses -/
def ksOf (as : List Addr) (ps : List (Int × Int)) : List (Addr × List Int) := (as.zip ps).map fun u => (u.1, [u.2.1, u.2.2])
theorem ks_facts {as : List Addr} {ps : List (Int × Int)} (pr : Paired (fun p n => SqT X.K H p [.int n.1, .int n.2]) as ps) :
    (ksOf as ps).map (fun p => V.ref p.1) = as.map V.ref ∧ (ksOf as ps).length = ps.length ∧ (∀ q ∈ ksOf as ps, ∃ n ∈ ps, q.2 = [n.1, n.2] ∧ SqT X.K H q.1 [.int n.1, .int n.2]) ∧ ∀ n ∈ ps, [n.1, n.2] ∈ (ksOf as ps).map (·.2) := by
  induction pr with
  | nil => exact ⟨rfl, rfl, fun q hq => (by cases hq), fun n hn => (by cases hn)⟩
  | cons h1 h2 ih =>
    rename_i a n as ps
    obtain ⟨i1, i2, i3, i4⟩ := ih
    have e : ksOf (a :: as) (n :: ps) = (a, [n.1, n.2]) :: ksOf as ps := rfl
    rw [e]
    refine ⟨by rw [List.map_cons, List.map_cons, i1], by rw [List.length_cons, List.length_cons, i2], fun q hq => ?_, fun m hm => ?_⟩
    · rcases List.mem_cons.mp hq with rfl | hq
      · exact ⟨n, List.mem_cons_self, rfl, h1⟩
      · obtain ⟨m, hm, e1, e2⟩ := i3 q hq
        exact ⟨m, List.mem_cons_of_mem _ hm, e1, e2⟩
    · rcases List.mem_cons.mp hm with rfl | hm
      · exact List.mem_cons_self
      · exact List.mem_cons_of_mem _ (i4 m hm)
theorem sst_ok {a : Vv} {v : V} {x z : D} {Q : VK} (r : RelH X.K S H h) (ra : RW X.K S H a v) (ea : rdV h a = some x) (hz : sstD x = some z) (dl : Dl X.K S H h z Q) :
    rSetOfT X.K X.prog X.w [v] H fun v2 H2 => rSortedT X.K X.prog X.w [v2] H2 Q := by
  unfold sstD at hz
  split at hz
  · rename_i xs
    obtain ⟨ps, hps, hz⟩ := Option.bind_eq_some_iff.mp hz
    split at hz
    · rename_i hc
      cases hz
      obtain ⟨p, vs, rfl, t, q⟩ := ra.lst r ea
      obtain ⟨as, rfl, pr⟩ := RVs.pairs hps q
      obtain ⟨k1, k2, k3, k4⟩ := ks_facts pr
      have hsm : ∀ n ∈ ps, TS.Bd 1000 [n.1, n.2] := fun n hn => by
        have := List.all_eq_true.mp hc.2 n hn
        unfold smallQ at this
        simp only [Bool.and_eq_true, decide_eq_true_eq] at this
        intro m hm
        rcases List.mem_cons.mp hm with rfl | hm
        · omega
        · rw [List.mem_singleton.mp hm]
          omega
      refine ⟨p, ksOf as ps, rfl, by rw [k1]; exact SqL.of t, fun u hu => ?_, by rw [k2]; exact hc.1, fun a0 L ha0 hL hL2 => ?_⟩
      · obtain ⟨n, hn, e1, e2⟩ := k3 u hu
        rw [e1]
        exact e2
      · have xn : Ext S H S (upd H a0 (SetTO X.prog X.w a0 L)) := ext_new ha0
        have rn : RelH X.K S (upd H a0 (SetTO X.prog X.w a0 L)) h := r.new ha0
        refine ⟨a0, L, 2, 1000, rfl, upd_same, fun u hu => ?_, by omega, fun u hu => ?_, fun L' p' pm nd hl pw hp' => ?_⟩
        · obtain ⟨n, hn, e1, e2⟩ := k3 u (hL u hu)
          rw [e1]
          exact r.keepT xn e2
        · obtain ⟨n, hn, e1, e2⟩ := k3 u (hL u hu)
          rw [e1]
          exact ⟨rfl, hsm n hn⟩
        · have dl' : Dl X.K S (upd H a0 (SetTO X.prog X.w a0 L)) h (.lst ((sortQ ps).map pairD)) Q := fun S' w' H' x' r' rv' => dl S' w' H' (xn.trans x') r' rv'
          have hN : ∀ u ∈ L', ∃ n ∈ ps, u.2 = [n.1, n.2] ∧ SqT X.K (upd H a0 (SetTO X.prog X.w a0 L)) u.1 [.int n.1, .int n.2] := fun u hu => by
            obtain ⟨n, hn, e1, e2⟩ := k3 u (hL u (pm.mem_iff.mp hu))
            exact ⟨n, hn, e1, r.keepT xn e2⟩
          -- the pairs in their new order
          obtain ⟨N, hN1, hN2⟩ : ∃ N : List (Int × Int), L'.map (·.2) = N.map (fun n => [n.1, n.2]) ∧ RVs X.K S (upd H a0 (SetTO X.prog X.w a0 L)) (N.map pairD) (L'.map fun q => V.ref q.1) := by
            clear pm nd hl pw
            induction L' with
            | nil => exact ⟨[], rfl, .nil⟩
            | cons u L' ih =>
              obtain ⟨N, i1, i2⟩ := ih fun w hw => hN w (List.mem_cons_of_mem _ hw)
              obtain ⟨n, hn, e1, e2⟩ := hN u List.mem_cons_self
              refine ⟨n :: N, by rw [List.map_cons, List.map_cons, i1, e1], .cons ?_ i2⟩
              unfold pairD RV
              exact ⟨u.1, _, rfl, e2, .cons (by unfold RV; rfl) (.cons (by unfold RV; rfl) .nil)⟩
          have hmem : ∀ n, n ∈ N ↔ n ∈ ps := fun n => by
            have inj : ∀ a b : Int × Int, [a.1, a.2] = [b.1, b.2] → a = b := fun a b e => by
              simp only [List.cons.injEq, and_true] at e
              exact Prod.ext e.1 e.2
            constructor
            · intro hn
              have h1 : [n.1, n.2] ∈ L'.map (·.2) := by rw [hN1]; exact List.mem_map_of_mem (f := fun n : Int × Int => [n.1, n.2]) hn
              obtain ⟨u, hu, e1⟩ := List.mem_map.mp h1
              obtain ⟨m, hm, e2, _⟩ := hN u hu
              rw [inj n m (by rw [← e1, e2])]
              exact hm
            · intro hn
              have h1 := k4 n hn
              obtain ⟨u, hu, e1⟩ := List.mem_map.mp h1
              have h2 := hL2 u hu
              rw [e1] at h2
              obtain ⟨u2, hu2, e2⟩ := List.mem_map.mp h2
              have h3 : [n.1, n.2] ∈ L'.map (·.2) := List.mem_map.mpr ⟨u2, pm.mem_iff.mpr hu2, e2⟩
              rw [hN1] at h3
              obtain ⟨m, hm, e3⟩ := List.mem_map.mp h3
              rw [← inj m n e3]
              exact hm
          have hpw : N.Pairwise fun a b => ltP a b = true := by
            have q1 : (L'.map (·.2)).Pairwise fun a b => TS.code 1000 a ≤ TS.code 1000 b := by rw [List.pairwise_map]; exact pw
            rw [hN1] at q1 nd
            have q2 := List.pairwise_map.mp q1
            have q3 := List.pairwise_map.mp nd
            refine List.Pairwise.imp_of_mem (R := fun a b => TS.code 1000 [a.1, a.2] ≤ TS.code 1000 [b.1, b.2] ∧ [a.1, a.2] ≠ [b.1, b.2]) (fun {a b} ha hb hab => ?_) (q2.and q3)
            have := code_lex (hsm a ((hmem a).mp ha)) (hsm b ((hmem b).mp hb)) hab.1
            rw [ltP_iff]
            have hne : ¬ (a.1 = b.1 ∧ a.2 = b.2) := fun z => hab.2 (by rw [z.1, z.2])
            omega
          have hNs : N = sortQ ps := sorted_ext hpw (sortQ_pw ps) fun n => by rw [hmem, mem_sortQ]
          rw [hNs] at hN2
          exact dl'.lst rn hN2 p' hp'
    · cases hz
  · cases hz
end
end Bk
/-! BkE: which text an expression of the small language stands for; what is asked of a context. -/
namespace Bk
open PySem PySem.Spec PyProof.Rows L2

/-- the names of defs, constants and exceptions, a def's parameters; which of them there are -/
structure Nm where
  fnm : Nat → Str
  gnm : Nat → Str
  enm : Nat → Str
  fps : Nat → List Str
  fs : List Nat
  gs : List Nat
  es : List Nat
  ks : List Nat
  /-- the answer-teller stands in the text; a lambda may stand in this def -/
  rs : Bool := false
  lm : Bool := false

/-! ### the text's side -/
def vis (sc : Scope) (x : Str) : Bool := match sc.names.lookup x with
  | some .local => true | some .cell => true | some .free => true | _ => false
def glb (sc : Scope) (x : Str) : Bool := match sc.names.lookup x with
  | some .globalImplicit => true | _ => false
def loc1 (sc : Scope) (top : Bool) (x : Str) : Bool := match sc.names.lookup x with
  | some .local => true | some .cell => top | _ => false
def nodbg (x : Str) : Bool := !(x == ("__debug__" : Str)) && !(x == ("__classdict__" : Str)) && !(x == ("__name__" : Str))
def notSt : PySem.Expr → Bool
  | .Starred .. => false
  | _ => true
def notSet : PySem.Expr → Bool
  | .Set .. => false
  | _ => true
def notCmp : PySem.Expr → Bool
  | .ListComp .. => false | .SetComp .. => false | .DictComp .. => false
  | _ => true
def notSlc : PySem.Expr → Bool
  | .Slice .. => false
  | _ => true
def notTup : PySem.Expr → Bool
  | .Tuple vs _ _ => vs.all (foldedForSure 8)
  | _ => true
/-- a test by the value's truth -/
def plT : PySem.Expr → Bool
  | .BoolOp .. => false | .IfExp .. => false | .Compare .. => false | .UnaryOp .. => false
  | _ => true
def notCall : PySem.Expr → Bool
  | .Call .. => false
  | _ => true
def isCm : Ex → Bool
  | .cmp .. => true | .chn .. => true
  | _ => false
def mC : D → Const → Bool
  | .non, .none => true
  | .bl b, .bool c => b == c
  | .int i, .int j => decide (i = j)
  | .str s, .str z => decide (s = z.cps.toList)
  | _, _ => false
def mBop : Bop → Operator → Bool
  | .add, .Add => true | .sub, .Sub => true | .mul, .Mult => true | .fdiv, .FloorDiv => true | .mod, .Mod => true | .pow, .Pow => true
  | _, _ => false
def mCop : Cop → CmpOp → Bool
  | .eq, .Eq => true | .ne, .NotEq => true | .lt, .Lt => true | .le, .LtE => true | .gt, .Gt => true | .ge, .GtE => true
  | .is, .Is => true | .isn, .IsNot => true | .isin, .In => true | .nin, .NotIn => true
  | _, _ => false
def bltS : Blt → Str
  | .len => "len" | .min => "min" | .max => "max" | .sum => "sum" | .all => "all" | .any => "any" | .tuple => "tuple" | .list => "list" | .abs => "abs" | .str => "str" | .int => "int"
def mthS : Mth → Str
  | .join => "join" | .split => "split"
mutual
def mTg (N : List Str) (sc : Scope) (top : Bool) : Tg → PySem.Expr → Bool
  | .nm i, e => match e with
    | .Name x _ => decide (N[i]? = some x) && loc1 sc top x
    | _ => false
  | .tp ts, e => match e with
    | .Tuple es _ _ => mTgs N sc top ts es
    | _ => false
def mTgs (N : List Str) (sc : Scope) (top : Bool) : List Tg → List PySem.Expr → Bool
  | [], [] => true
  | t :: ts, e :: es => notSt e && mTg N sc top t e && mTgs N sc top ts es
  | _, _ => false
end
/-- a comprehension's own names with their places -/
def ownN (N : List Str) : List Nat → List (Str × Nat)
  | [] => []
  | i :: r => (N.getD i "", i) :: ownN N r

def noPar (a : Arguments) : Bool := a.posonlyargs.isEmpty && a.args.isEmpty && a.vararg.isNone && a.kwonlyargs.isEmpty && a.kw_defaults.isEmpty && a.kwarg.isNone && a.defaults.isEmpty
mutual
def mE (G : Nm) (N : List Str) : Ex → Scope → PySem.Expr → Bool
  | .var i, sc, e => match e with
    | .Name x _ => decide (N[i]? = some x) && vis sc x && nodbg x
    | _ => false
  | .cst d, _, e => match e with
    | .Constant c _ _ => mC d c
    | _ => false
  | .glo g, sc, e => match e with
    | .Name x _ => decide (g ∈ G.gs) && decide (G.gnm g = x) && glb sc x && nodbg x
    | _ => false
  | .tup es, sc, e => match e with
    | .Tuple xs _ _ => mEs G N es sc xs
    | _ => false
  | .lst es, sc, e => match e with
    | .List xs _ => mEs G N es sc xs
    | _ => false
  | .bop o a b, sc, e => match e with
    | .BinOp l op r _ => mBop o op && mE G N a sc l && mE G N b sc r
    | _ => false
  | .neg a, sc, e => match e with
    | .UnaryOp .USub x _ => mE G N a sc x
    | _ => false
  | .cmp o a b, sc, e => match e with
    | .Compare l [op] [r] _ => mCop o op && notSet r && mE G N a sc l && mE G N b sc r
    | _ => false
  | .chn o p a b c, sc, e => match e with
    | .Compare l [op, op'] [r, r'] _ => mCop o op && mCop p op' && notSet r && notSet r' && mE G N a sc l && mE G N b sc r && mE G N c sc r'
    | _ => false
  | .and a b, sc, e => match e with
    | .BoolOp .And (l :: r :: rest) pos => mE G N a sc l && (match rest with
      | [] => mE G N b sc r
      | _ :: _ => mE G N b sc (.BoolOp .And (r :: rest) pos))
    | _ => false
  | .or a b, sc, e => match e with
    | .BoolOp .Or (l :: r :: rest) pos => mE G N a sc l && (match rest with
      | [] => mE G N b sc r
      | _ :: _ => mE G N b sc (.BoolOp .Or (r :: rest) pos))
    | _ => false
  | .not a, sc, e => match e with
    | .UnaryOp .Not x _ => mE G N a sc x
    | _ => false
  | .ite c a b, sc, e => match e with
    | .IfExp t x y _ => mT G N c sc t && mE G N a sc x && mE G N b sc y
    | _ => false
  | .sub a i, sc, e => match e with
    | .Subscript x s _ => notSlc s && mE G N a sc x && mE G N i sc s
    | _ => false
  | .slc a lo hi, sc, e => match e with
    | .Subscript x (.Slice l u none _) _ => mE G N a sc x && mO G N lo sc l && mO G N hi sc u
    | _ => false
  | .cal f es, sc, e => match e with
    | .Call (.Name x _) xs [] _ => decide (f ∈ G.fs) && decide (G.fnm f = x) && glb sc x && nodbg x && decide ((G.fps f).length = xs.length) && mEs G N es sc xs
    | _ => false
  | .cak f es ks, sc, e => match e with
    | .Call (.Name x _) xs kws _ => decide (f ∈ G.fs) && decide (G.fnm f = x) && glb sc x && nodbg x && decide (kws.map (·.arg) = ((G.fps f).drop xs.length).map some) && decide ((G.fps f).length = xs.length + kws.length) && decide (f ∈ G.ks) && mEs G N es sc xs && mKs G N ks sc kws
    | _ => false
  | .blt b es, sc, e => match e with
    | .Call (.Name x _) (y :: xs) [] _ => decide (bltS b = x) && glb sc x && mEs G N es sc (y :: xs)
    | _ => false
  | .mth m o a, sc, e => match e with
    | .Call (.Attribute x k ap) [y] [] p => decide (mthS m = k) && (ap.endLine == p.line) && notSt y && plT x && notCall x && mE G N o sc x && mE G N a sc y
    | _ => false
  | .sst a, sc, e => match e with
    | .Call (.Name x _) [.Call (.Name z _) [y] [] _] [] _ => decide (x = "sorted") && glb sc x && decide (z = "set") && glb sc z && notSt y && mE G N a sc y
    | _ => false
  | .res x, sc, e => match e with
    | .Call (.Name f _) [.Lambda ps bd lsc _] [] _ => G.rs && G.lm && decide (f = "_law_result") && glb sc f && noPar ps && LamX.lamSB sc lsc && mE { G with lm := false } N x lsc bd
    | _ => false
  | .isi t a, sc, e => match e with
    | .Call (.Name x _) [y, .Name z _] [] _ => decide (x = "isinstance") && glb sc x && decide (z = ityS t) && glb sc z && notSt y && mE G N a sc y
    | _ => false
  | .cmp1 elt tg it own, sc, e => match e with
    | .ListComp x [⟨t, iter, [], 0⟩] scope _ => blkC N sc scope (ownN N own) && ((tgS tg).all fun i => decide (i ∈ own)) && notSet iter && mTg N (relS scope sc) false tg t && mI G N it sc t iter && mE G N elt (relS scope sc) x
    | _ => false
  | .cmpc elt tg it c own, sc, e => match e with
    | .ListComp x [⟨t, iter, [cd], 0⟩] scope _ => blkC N sc scope (ownN N own) && ((tgS tg).all fun i => decide (i ∈ own)) && notSet iter && mTg N (relS scope sc) false tg t && mI G N it sc t iter && mT G N c (relS scope sc) cd && mE G N elt (relS scope sc) x
    | _ => false
def mEs (G : Nm) (N : List Str) : Exs → Scope → List PySem.Expr → Bool
  | .nil, _, xs => match xs with
    | [] => true
    | _ => false
  | .cons e es, sc, xs => match xs with
    | x :: r => notSt x && mE G N e sc x && mEs G N es sc r
    | _ => false
def mKs (G : Nm) (N : List Str) : Exs → Scope → List Keyword → Bool
  | .nil, _, xs => match xs with
    | [] => true
    | _ => false
  | .cons e es, sc, xs => match xs with
    | x :: r => x.arg.isSome && mE G N e sc x.value && mKs G N es sc r
    | _ => false
def mO (G : Nm) (N : List Str) : Ox → Scope → Option PySem.Expr → Bool
  | .no, _, x => match x with
    | none => true
    | _ => false
  | .so e, sc, x => match x with
    | some y => mE G N e sc y
    | _ => false
def mT (G : Nm) (N : List Str) : Tx → Scope → PySem.Expr → Bool
  | .val a, sc, e => (isCm a || plT e) && mE G N a sc e
  | .and a b, sc, e => match e with
    | .BoolOp .And (l :: r :: rest) pos => mT G N a sc l && (match rest with
      | [] => mT G N b sc r
      | _ :: _ => mT G N b sc (.BoolOp .And (r :: rest) pos))
    | _ => false
  | .or a b, sc, e => match e with
    | .BoolOp .Or (l :: r :: rest) pos => mT G N a sc l && (match rest with
      | [] => mT G N b sc r
      | _ :: _ => mT G N b sc (.BoolOp .Or (r :: rest) pos))
    | _ => false
  | .not a, sc, e => match e with
    | .UnaryOp .Not x _ => mT G N a sc x
    | _ => false
def mI (G : Nm) (N : List Str) : Ix → Scope → PySem.Expr → PySem.Expr → Bool
  | .seq a, sc, _, e => mE G N a sc e
  | .own i, sc, _, e => match e with
    | .Name x _ => decide (N[i]? = some x) && vis sc x && nodbg x
    | _ => false
  | .enm a, sc, t, e => match t with
    | .Tuple _ _ _ => match e with
      | .Call (.Name x _) [y] [] _ => decide (x = "enumerate") && glb sc x && notSt y && mE G N a sc y
      | _ => false
    | _ => false
  | .rg1 a, sc, _, e => match e with
    | .Call (.Name x _) [y] [] _ => decide (x = "range") && glb sc x && notSt y && mE G N a sc y
    | _ => false
  | .rg2 a b, sc, _, e => match e with
    | .Call (.Name x _) [y, z] [] _ => decide (x = "range") && glb sc x && notSt y && notSt z && mE G N a sc y && mE G N b sc z
    | _ => false
  | .rg3 a b c, sc, _, e => match e with
    | .Call (.Name x _) [y, z, u] [] _ => decide (x = "range") && glb sc x && notSt y && notSt z && notSt u && mE G N a sc y && mE G N b sc z && mE G N c sc u
    | _ => false
end

/-! ### the texts' little facts -/
theorem star_cons {e : PySem.Expr} {es : List PySem.Expr} {env : Env} (h : notSt e = true) : starEach (e :: es) env = (false, eval e env) :: starEach es env := by
  cases e <;> first | rfl | (simp [notSt] at h)
theorem star_any {pos : Pos} {env : Env} : ∀ {es : List PySem.Expr}, es.all notSt = true → (backTo pos (starEach es env)).any (·.1) = false
  | [], _ => rfl
  | e :: es, h => by
    rw [List.all_cons, Bool.and_eq_true] at h
    rw [star_cons h.1]
    show ((false : Bool) || (backTo pos (starEach es env)).any (·.1)) = false
    rw [star_any h.2]; rfl
theorem isTrue_pl {e : PySem.Expr} {env : Env} (h : plT e = true) : ∀ whole, isTrue e env whole = (do let v ← whole; standAt e.pos; holding [v] (truthy v)) := by
  cases e <;> first | (intro _; rfl) | (simp [plT] at h)
theorem nomarkS {e : PySem.Expr} {op : CmpOp} (h : notSet e = true) : behindInMarks op e = false := by
  cases e <;> first | rfl | (simp [notSet] at h)
theorem folded {e : PySem.Expr} {env : Env} (h : notSet e = true) : ∀ x, foldedSetIterable e env x = pure x := by
  cases e <;> first | (intro _; rfl) | (simp [notSet] at h)
theorem swaps_no {e : PySem.Expr} {t : Option PySem.Expr} {l : Nat} {env : Env} (h : notCmp e = true) : swapsWith e t l env = pure false := by
  cases e <;> first | rfl | (simp [notCmp] at h)
theorem swapSole_no {e t : PySem.Expr} {l : Nat} {env : Env} (h : notCmp e = true) : swapsWithSole [t] e l env = pure false := swaps_no h
theorem swapped_no {e : PySem.Expr} {ts : List PySem.Expr} {k : Nat} {p : Pos} {env : Env} (h : notTup e = true) : swappedStores [.Tuple ts k p] e env = pure none := by
  cases e with
  | Tuple vs k2 p2 =>
    have h : vs.all (foldedForSure 8) = true := h
    unfold swappedStores
    simp only [pure_bind]
    split
    · rfl
    · split
      · rfl
      · split
        · rfl
        · first | rfl | (rw [if_pos h])
  | _ => rfl
theorem plainIx {e : PySem.Expr} (h : notSlc e = true) : PlainIx e := by
  intro o i
  cases e <;> first | rfl | (simp [notSlc] at h)
theorem attrBase {e : PySem.Expr} {m : Str} {env : Env} (h : notCall e = true) : attributeBase e m env (eval e env) = eval e env := by
  cases e <;> first | rfl | (simp [notCall] at h)
theorem mC_ok {d : D} {c : Const} (h : mC d c = true) : (d = .non ∧ c = .none) ∨ (∃ b, d = .bl b ∧ c = .bool b) ∨ (∃ i, d = .int i ∧ c = .int i) ∨ (∃ s z, d = .str s ∧ c = .str z ∧ z = ⟨s.toArray⟩) := by
  unfold mC at h
  split at h
  · exact .inl ⟨rfl, rfl⟩
  · exact .inr (.inl ⟨_, rfl, by rw [eq_of_beq h]⟩)
  · exact .inr (.inr (.inl ⟨_, rfl, by rw [of_decide_eq_true h]⟩))
  · exact .inr (.inr (.inr ⟨_, _, rfl, rfl, by rw [of_decide_eq_true h]⟩))
  · cases h
theorem nodbg_ok {x : Str} (h : nodbg x = true) : (x == ("__debug__" : Str)) = false ∧ (x == ("__classdict__" : Str)) = false ∧ x ≠ "__name__" := by
  unfold nodbg at h
  simp only [Bool.and_eq_true, Bool.not_eq_true'] at h
  exact ⟨h.1.1, h.1.2, by simpa using h.2⟩
theorem vis_ok {sc : Scope} {x : Str} (h : vis sc x = true) : Vis sc x := by
  unfold vis at h
  split at h
  · exact .inl ‹_›
  · exact .inr (.inl ‹_›)
  · exact .inr (.inr ‹_›)
  · cases h
theorem glb_ok {sc : Scope} {x : Str} (h : glb sc x = true) : sc.names.lookup x = some .globalImplicit := by
  unfold glb at h
  split at h
  · assumption
  · cases h
end Bk
/-! Bku: what the law's answer-teller needs: update, an exception kept as a value, isinstance of it. -/
namespace Bk
open PySem PySem.Spec PyProof.Rows L2
section
variable {X : Cx} {pins : List (Addr × Obj)} {σ : L2.St} {H : Hp} {s : Shared} {a b : Addr} {kvs more : List (Key × V)} {A : Around} {E : Value → Shared → Prop}
/-- d.update(e) of two dicts -/
theorem d_update {Q : Value → Shared → Prop} (I : Inv X pins σ H s) (ea : H a = some (.dK kvs)) (eb : H b = some (.dK more)) (hab : a ≠ b) (hz : kvs.length + more.length ≤ sizeLine)
    (h : ∀ s', Inv X pins σ (upd H a (.dK (mergeK kvs more))) s' → Q .none s') : wpAny (model X.prog X.w) A (call (.builtin "dict.update") [.ref a, .ref b]) Q E s := by
  obtain ⟨z, hd, vs, rel, dd⟩ := dk_of I.hok ea
  obtain ⟨z2, hd2, ws, rel2, dd2⟩ := dk_of I.hok eb
  refine call_meetsIn PySem.F.slot_dict_update dd.typeIs PySem.F.entry_dict_update (PySem.F.args_dict_update_2 _ _) (meets_dict_update (mixKind X.prog X.w) a b hab hd2)
    ⟨vs, ws, dd, dd2, by rw [← rel.length, ← rel2.length]; exact hz, fun h' dd' _ hs => h _ ?_⟩
  have he : ∃ q, h'.get? a = some q := let ⟨q, _, _, hq, _⟩ := dd'; ⟨q, hq⟩
  have hl := length_mergeK more kvs
  exact d_write (t' := s.toks) I (by rw [ea]; exact True.intro) hs he (dk_new (by omega) hd (KV.merge rel2 rel) dd')
end
/-- d.update(e) -/
def tDUpd (td ty : TE) : TE := fun σ H Q => td σ H fun x H1 => ∃ a, x = .ref a ∧ IsD H1 a ∧ ty σ H1 fun y H2 => ∃ (b : Addr) (kvs more : List (Key × V)), y = .ref b ∧ H2 a = some (.dK kvs) ∧ H2 b = some (.dK more) ∧ a ≠ b ∧ kvs.length + more.length ≤ sizeLine ∧ Q .non (upd H2 a (.dK (mergeK kvs more)))
section
variable {X : Cx} {o e : PySem.Expr} {td ty : TE} {apos cpos : Pos}
theorem pe_dupd (ho : PE X o td) (he : PE X e ty) (m : M1 X o "update" apos e cpos) : PE X (.Call (.Attribute o "update" apos) [e] [] cpos) (tDUpd td ty) := by
  refine ⟨fun pins s σ H Q I h => ?_⟩
  refine wpAny_Call_method m.base m.few m.line PySem.F.plainAttrs_dict PySem.F.slot_dict_update PySem.F.type_dict_update (thn (ho.run pins s σ H _ I h) fun u s1 ⟨x, H1, I1, rx, a, ex, d, q1⟩ => ?_)
  subst ex
  obtain rfl : u = Value.ref a := rx
  obtain ⟨t1, t2, _⟩ := isD_at I1 d
  refine ⟨t1, t2, ?_⟩
  rw [m.trees]
  refine Calls.callWith_builtin rfl (Calls.evalArgs_plain (Calls.spliced_cons (thn (he.run pins s1 σ H1 _ I1 q1) fun iv s2 ⟨y, H2, I2, ry, b, kvs, more, ey, ea, eb, hab, hz, q2⟩ => Calls.spliced_nil ?_)))
  subst ey
  obtain rfl : iv = Value.ref b := ry
  exact d_update I2 ea eb hab hz fun s3 I3 => ⟨.non, _, I3, rfl, q2⟩
end
/-! ### an exception kept as a value -/
/-- an exception object of the class at C, at a -/
def ExT (C : Addr) (a : Addr) : HO := .ext fun h => ∃ oe : Obj, h.get? a = some oe ∧ oe.cls = .ref C ∧ oe.dict = none ∧ ∃ vs, oe.data = .fields vs
theorem exT_ok {P : Program} {w : World} {H : Hp} {h : Heap} {a C : Addr} {oe : Obj} (e : h.get? a = some oe) (z : Zc (.ref C) none oe) (d : ∃ vs, oe.data = .fields vs) : ObjOk P w H h a (ExT C a) :=
  ⟨⟨oe, e, z.1, z.2, d⟩, ⟨oe, e⟩, fun _ _ ⟨o, q, r⟩ k => ⟨o, k o q, r⟩⟩
section
variable {X : Cx} {pins : List (Addr × Obj)} {σ : L2.St} {H : Hp} {s : Shared}
/-- a pinned object that is new since the def was entered may be tracked -/
theorem inv_track {a : Addr} {oe : Obj} {o : HO} (I : Inv X ((a, oe) :: pins) σ H s) (n0 : X.s_0.heap.get? a = none) (np : ∀ p ∈ X.pn ++ pins, p.1 ≠ a) (new : ObjOk X.prog X.w (upd H a o) s.heap a o) : Inv X pins σ (upd H a o) s := by
  obtain ⟨pe, pn, pl, pf, pc⟩ := I.pin (a, oe) (by simp)
  have pe : s.heap.get? a = some oe := pe
  have pn : H a = none := pn
  have ne0 : ∀ b u, X.s_0.heap.get? b = some u → b ≠ a := fun b u e z => by rw [z, n0] at e; cases e
  refine ⟨I.ok, I.os, I.bare, ⟨I.base.keep, I.base.slot, fun b u e n hx => ?_, I.base.there, fun b xs e => ?_, fun b u w e => ?_, fun b ps e => ?_⟩, I.loc, I.cell, ?_, fun x c e => ?_, fun p hp => ?_, fun b u e => ?_, I.len⟩
  · rw [upd_ne (ne0 b u e)]
    exact I.base.free b u e n hx
  · have := I.base.tups b xs e
    rw [upd_ne (ne_of_none this pn)]
    exact this
  · have := I.base.frzs b u w e
    rw [upd_ne (ne_of_none this pn)]
    exact this
  · obtain ⟨m, q⟩ := I.base.tbls b ps e
    exact ⟨m, by rw [upd_ne (ne_of_none q pn)]; exact q⟩
  · rw [upd_ne (Ne.symm pl)]
    exact I.free
  · have hc := I.freeC x c e
    obtain ⟨v, oc, q1, q2⟩ := I.cell x c e
    rw [upd_ne (fun z => ?_)]
    · exact hc
    · subst z
      rw [pe] at q1
      cases q1
      exact pc _ q2
  · obtain ⟨h1, h2, h3⟩ := I.pin p (by
      rcases List.mem_append.mp hp with h | h
      · exact List.mem_append.mpr (.inl h)
      · exact List.mem_append.mpr (.inr (List.mem_cons_of_mem _ h)))
    exact ⟨h1, by rw [upd_ne (np p hp)]; exact h2, h3⟩
  · by_cases hb : b = a
    · subst hb
      rw [upd_same] at e
      cases e
      exact new
    · rw [upd_ne hb] at e
      exact (I.hok b u e).stay (fun c v _ q => q) (fun c q => by rw [upd_ne (ne_of_none q pn)]; exact q) fun c xs q => by rw [upd_ne (ne_of_none q pn)]; exact q
end
/-- what is wanted where the body raises: it is caught, the exception stands in slot j, slot i is empty -/
def wKeep (K : PySem.W.Frag) (c : Value) (i j n : Nat) (D : Ends) : WX := fun cls d σ H => ∃ C : Addr, cls = .ref C ∧ d = none ∧ PySem.W.exmOne K cls c = some true ∧ ∀ a, H a = none → σ.length = n → D.nx ((σ.set j (some (.ref a))).set i none) (upd H a (ExT C a))
section
variable {X : Cx} {x n y : Str} {c : Value} {i j : Nat} {body : List Stmt} {q1 q2 q3 q4 q5 q6 : Pos} {tb : WX → TS}
/-- try: body / except x as n: y = n, where all that is raised is caught -/
theorem ps_try_keep (stk : X.stack = X.env :: X.outer) (frm : X.env.frame = some X.env.locals) (nodX : X.N.Nodup) (atN : X.N[i]? = some n) (locN : X.env.kindOf n = some .local) (atY : X.N[j]? = some y) (locY : X.env.kindOf y = some .local) (hij : i ≠ j) (noex : X.ex = []) (cls0 : Names X x c)
    (nn : (n == ("__debug__" : Str)) = false ∧ (n == ("__classdict__" : Str)) = false)
    (hb : ∀ (W : WX) (pn : List (Addr × Obj)) (xe : Value → Shared → Prop), Takes (X.tr pn xe) W → PassesOwn (model X.prog X.w) X.A X.env xe → PSs (X.tr pn xe) body (tb W)) :
    PS X (.Try body [.ExceptHandler (some (.Name x q1)) (some n) [.Assign [.Name y q2] (.Name n q3) q4] q5] [] [] q6) (fun D σ H => tb (wKeep X.K c i j X.N.length D) D σ H) := by
  refine ⟨fun pins s σ H D I hw => ?_⟩
  have okX := I.ok
  have frames : X.A.frames = some (X.env :: X.outer) := by rw [okX.frames, stk]
  refine wpAny_Try_except ?_
  have run := (hb (wKeep X.K c i j X.N.length D) (X.pn ++ pins) (fun e s₁ => wpAny (model X.prog X.w) X.A (noteFrame e X.env) (fun _ s₂ => wpAny (model X.prog X.w) X.A (setFlight e none) (fun _ s₃ =>
      wpAny (model X.prog X.w) X.A (handleBy e X.env [.ExceptHandler (some (.Name x q1)) (some n) [.Assign [.Name y q2] (.Name n q3) q4] q5]) (SP X pins D) X.xe s₃) X.xe s₂) X.xe s₁)
    (fun u s' air => by
      obtain ⟨a, B, sI, pins', σ', H', cls, d, rfl, JT, inB, up, sky, na, os, ag, C, rfl, rfl, hit, go⟩ := air
      have J : Inv X pins σ' H' sI := JT.ofTry okX
      have skyE : Sky B (X.env :: X.outer) a (Zc (.ref C) none) X.env.locals s'.heap := by rw [← stk]; exact sky
      have newB : B.get? a = none := by
        rcases skyE with z | z | z
        · exact z.2.1
        · exact z.2.1
        · exact z.2.1
      show wpAny (model X.prog X.w) X.A (noteFrame (.ref a) X.env) _ _ _
      refine Sky.land Zc.steady frames frm skyE fun h3 fl3 up3 => ?_
      have J3 : Inv X pins σ' H' { s' with heap := h3 } := J.landed inB fl3.1 (up.trans up3) os ag
      obtain ⟨oe3, vs3, at3, z3, d3⟩ := fl3.there
      have notF : a ∉ frs (X.env :: X.outer) := fun hm => by
        obtain ⟨_, o', e', hnf⟩ := fl3.2.2.1.mem hm
        rw [at3] at e'
        cases e'
        exact hnf _ d3
      have apartL : a ≠ X.env.locals := fun z => notF (List.mem_filterMap.mpr ⟨X.env, List.mem_cons_self, by rw [frm, z]⟩)
      have apartF : a ∉ X.fs := fun hm => by
        obtain ⟨e, he, q⟩ := List.mem_filterMap.mp hm
        exact notF (List.mem_filterMap.mpr ⟨e, List.mem_cons_of_mem _ he, q⟩)
      have notI : ∀ o, sI.heap.get? a ≠ some o := fun o e => by
        have := inB a o e (by rw [stk]; exact notF)
        rw [newB] at this
        cases this
      have new0 : X.s_0.heap.get? a = none := by
        cases e : X.s_0.heap.get? a with
        | none => rfl
        | some o =>
          obtain ⟨o', e'⟩ := J.base.there a o e (by rw [noex]; exact fun z => nomatch z)
          exact absurd e' (notI o')
      have newP : ∀ p ∈ X.pn ++ pins, p.1 ≠ a := fun p hp z => notI p.2 (by rw [← z]; exact (J.pin p hp).1)
      have S3 := J3.suite at3 d3 na apartL apartF
      refine wpAny_handleBy_cons (codeAny_handlers_test ?_) (by intro q; cases q)
      have LT : PySem.W.Looks (model X.prog X.w) h3 (typeOf (.ref a)) (.ref C) := fun A Q E s k q => wpAny_typeOf_ref (k _ _ at3) (by rw [z3.1]; exact q)
      have LM := PySem.W.exm_one (M := model X.prog X.w) J3.kIn LT hit
      have named : ∀ {Q : Value → Shared → Prop} {E : Value → Shared → Prop}, Q c { s' with heap := h3 } → wpAny (model X.prog X.w) (X.A.mark (some (.ref a))) (eval (.Name x q1) X.env) Q E { s' with heap := h3 } := fun {Q E} q => by
        obtain ⟨hg, hdbg, hm | ⟨hm, hv, hnn⟩⟩ := cls0
        · exact ld_glob (X := X.suite a ((a, oe3) :: (X.pn ++ pins))) S3 hg hm q hdbg
        · exact ld_blt (X := X.suite a ((a, oe3) :: (X.pn ++ pins))) S3 hg hm hv q hnn hdbg
      refine named (LM.here ?_)
      refine codeAny_handlers_suite_as ?_
      refine HandSPX.lands_againZ fl3 fun h4 fl4 up4 => ?_
      have J4 : Inv X pins σ' H' { s' with heap := h4 } := J.landed inB fl4.1 ((up.trans up3).trans up4) os ag
      obtain ⟨oe4, vs4, at4, z4, d4⟩ := fl4.there
      have S4 := J4.suite at4 d4 na apartL apartF
      refine store_ok (X := X.suite a ((a, oe4) :: (X.pn ++ pins))) (v := .ref a) S4 nodX atN (.inl locN) rfl (fun s5 S5 => ?_) (.inr locN)
      have keepS : PSs (X.suite a ((a, oe4) :: (X.pn ++ pins))) [.Assign [.Name y q2] (.Name n q3) q4] _ := pss_one (ps_set (i := j) nodX atY (.inl locY) (pe_var (i := i) atN (.inl locN) nn.1 nn.2) (hf := .inr locY))
      have σl : i < σ'.length := by rw [J.len]; exact (List.getElem?_eq_some_iff.mp atN).1
      refine wpAny_mono (keepS.run [] s5 _ H' ⟨fun σ6 H6 => σ6 = (σ'.set i (some (.ref a))).set j (some (.ref a)) ∧ H6 = H', fun _ _ => False, fun _ _ => False, fun _ _ => False⟩ S5 ⟨.ref a, by simp [σl], rfl, rfl⟩) (fun f s6 hsp => ?_) (fun _ _ z => False.elim z)
      cases f with
      | next =>
        obtain ⟨σ6, H6, S6, rfl, rfl⟩ := hsp
        have I6 : Inv X ((a, oe4) :: pins) ((σ'.set i (some (.ref a))).set j (some (.ref a))) H6 s6 :=
          ⟨okX, S6.os, S6.bare, S6.base, S6.loc, S6.cell, S6.free, S6.freeC, fun p hp => S6.pin p (by
            rcases List.mem_append.mp hp with hp | hp
            · exact List.mem_append_left _ (List.mem_cons_of_mem _ (List.mem_append_left _ hp))
            · rcases List.mem_cons.mp hp with hp | hp
              · rw [hp]; exact List.mem_append_left _ List.mem_cons_self
              · exact List.mem_append_left _ (List.mem_cons_of_mem _ (List.mem_append_right _ hp))), S6.hok, S6.len⟩
        refine gone_ok I6 nodX atN locN fun s7 I7 => ?_
        have at7 : s7.heap.get? a = some oe4 := (I7.pin (a, oe4) (by simp)).1
        have I8 := inv_track (o := ExT C a) I7 new0 newP (exT_ok at7 z4 ⟨vs4, d4⟩)
        refine ⟨_, _, I8, ?_⟩
        have e : (((σ'.set i (some (V.ref a))).set j (some (V.ref a))).set i none) = (σ'.set j (some (V.ref a))).set i none := by
          rw [List.set_comm _ _ hij, List.set_set]
        rw [e]
        exact go a na J.len
      | brk =>
        obtain ⟨_, _, _, z⟩ := hsp
        exact z.elim
      | cont =>
        obtain ⟨_, _, _, z⟩ := hsp
        exact z.elim
      | ret u =>
        obtain ⟨_, _, _, _, _, z⟩ := hsp
        exact z.elim) PassesOwn.looking).run [] s σ H D (I.toTry _) hw
  refine wpAny_mono run (fun f s1 hsp => ?_) (fun e s1 he => he)
  cases f with
  | next =>
    obtain ⟨σ', H', JT, q⟩ := hsp
    exact wpAny_execs_nil ⟨σ', H', JT.ofTry okX, q⟩
  | brk =>
    obtain ⟨σ', H', JT, q⟩ := hsp
    exact ⟨σ', H', JT.ofTry okX, q⟩
  | cont =>
    obtain ⟨σ', H', JT, q⟩ := hsp
    exact ⟨σ', H', JT.ofTry okX, q⟩
  | ret u =>
    obtain ⟨v, σ', H', JT, r, q⟩ := hsp
    exact ⟨v, σ', H', JT.ofTry okX, r, q⟩
end
/-! ### isinstance of it -/
/-- what is seen of an exception class of the text -/
def xcB (K : PySem.W.Frag) (C : Addr) : Bool := decide (PySem.W.findIn K (.ref C) "__getattribute__" = some (some (.builtin "BaseException.__getattribute__"))) && (PySem.W.findIn K (.ref C) "__getattr__").isSome && decide (PySem.W.subIn K (.ref C) (.type "BaseException") = some true) && (PySem.W.clsIn K C).isSome &&
  decide (PySem.W.findIn K (.ref C) "__class__" = some (some (.builtin "object.__class__"))) && decide (PySem.W.specialIn K (.builtin "object.__class__") "__get__" = some (some (.builtin "getset_descriptor.__get__"))) && decide (PySem.W.takesIn K (.builtin "object.__class__") = some true) && decide (PySem.W.mroIn K C (.type "object") = some true)
theorem kitx_exc {K : PySem.W.Frag} {x C : Addr} (hx : xcB K C = true) : PySem.W.KitX K (.ref x) (.ref C) (fun h => ∃ ox, PySem.W.InstAt h x ox C none) := by
  unfold xcB at hx
  simp only [Bool.and_eq_true, decide_eq_true_eq] at hx
  obtain ⟨⟨⟨⟨⟨⟨⟨h1, h2⟩, h3⟩, h4⟩, h5⟩, h6⟩, h7⟩, h8⟩ := hx
  obtain ⟨gt, h2⟩ := Option.isSome_iff_exists.mp h2
  refine ⟨fun M h _ ⟨ox, I⟩ => I.type, fun M h KI _ => ?_, fun h tp dd its m sl KI htp => ?_, fun {prog w A E Q s} KI ⟨ox, I⟩ k => ?_⟩
  · obtain ⟨cd, hc⟩ := Option.isSome_iff_exists.mp h4
    unfold PySem.W.clsIn at hc
    split at hc
    · rename_i ho
      intro A' Q' E' s' st q
      unfold isType loadHead
      exact wpAny_bind (wpAny_loadPart (st _ _ (KI _ _ ho)) (wpAny_pure q))
    · cases hc
  · obtain ⟨cd, hc⟩ := Option.isSome_iff_exists.mp h4
    refine Bool.eq_false_iff.mpr fun q => ?_
    have e : C = tp := Value.ref.inj (beq_iff_eq.mp q)
    subst e
    unfold PySem.W.clsIn at hc
    split at hc
    · rename_i ho
      have := (KI _ _ ho).symm.trans htp
      cases this
    · cases hc
  · exact PySem.W.kx_classE KI I h1 h2 h3 (PySem.W.findObj_dataE h4 h5 h6 h7) h8 k
def rIsX (K : PySem.W.Frag) : List V → Hp → VK → Prop := fun xs H Q => ∃ (a C : Addr) (c : V) (u : Value) (b : Bool), xs = [.ref a, c] ∧ ClsV c u ∧ H a = some (ExT C a) ∧ xcB K C = true ∧ PySem.W.kitOne K (.ref C) u = some b ∧ Q (.bl b) H
theorem call_isX {X : Cx} : CallR X (.builtin "isinstance") (rIsX X.K) := by
  intro pins s σ H xs us Q I r h
  obtain ⟨a, C, c, u, b, rfl, k, ha, hx, e, q⟩ := h
  obtain ⟨u1, u2, rfl, r1, r2⟩ := vals2 r
  have e2 := k.eq r2
  subst e2
  obtain rfl : u1 = Value.ref a := r1
  obtain ⟨⟨oe, g1, g2, g3, vs, g4⟩, _, _⟩ := (show ObjOk X.prog X.w H s.heap a (ExT C a) from I.hok a _ ha)
  have inst : PySem.W.InstAt s.heap a oe C none := ⟨g1, g2, by unfold PySem.W.notCls; rw [g4], by rw [g3]; trivial⟩
  exact PySem.W.kia_one (kitx_exc hx) I.kIn ⟨oe, inst⟩ e (fun z => nomatch z) fun tk => ⟨.bl b, H, I.tok tk, rfl, q⟩
end Bk
/-! Bkv: the law's answer-teller: what it makes of a call. Printed by lres.py. -/
namespace Bk
open PySem PySem.Spec PyProof.Rows L2
abbrev resN : List Str := ["call", "caught", "answer", "e", "some", "names", "name"]
/-- the names of classes by what is told -/
abbrev resC : List (Str × Str) := [("rule", "InvalidWay"), ("rules", "InvalidWays"), ("line", "InvalidText"), ("spot", "InvalidPlace"), ("words", "InvalidTokens"), ("sizes", "InvalidLengths"), ("side", "InvalidSight"), ("count", "InvalidNumber"), ("sign", "InvalidLetter"), ("script", "InvalidLine"), ("unsure", "NeverSure"), ("alike", "Alike"), ("none", "NotWritten"), ("much", "TooMany"), ("over", "Ended"), ("undo", "NothingToUndo")]
def resSc : Scope := { kind := .function, names := [("call", .local), ("caught", .local), ("answer", .local), ("e", .local), ("some", .cell), ("names", .local), ("CopyError", .globalImplicit), ("isinstance", .globalImplicit), ("InvalidWay", .globalImplicit), ("InvalidWays", .globalImplicit), ("InvalidText", .globalImplicit), ("InvalidPlace", .globalImplicit), ("InvalidTokens", .globalImplicit), ("InvalidLengths", .globalImplicit), ("InvalidSight", .globalImplicit), ("InvalidNumber", .globalImplicit), ("InvalidLetter", .globalImplicit), ("InvalidLine", .globalImplicit), ("NeverSure", .globalImplicit), ("Alike", .globalImplicit), ("NotWritten", .globalImplicit), ("TooMany", .globalImplicit), ("Ended", .globalImplicit), ("NothingToUndo", .globalImplicit), ("len", .globalImplicit), ("ValueError", .globalImplicit)], isGenerator := false, isCoroutine := false, more := [("fast", .str "call"), ("fast", .str "caught"), ("fast", .str "answer"), ("fast", .str "e"), ("fast", .str "some"), ("fast", .str "name"), ("fast", .str "names")] }
def resCs : Scope := { kind := .function, names := [(".0", .local), ("name", .local), ("some", .free)], isGenerator := false, isCoroutine := false, more := [] }
abbrev lresB (p1 p2 p3 p4 p5 p6 p7 p8 p9 p10 p11 p12 p13 p14 p15 p16 p17 p18 p19 p20 p21 p22 p23 p24 p25 p26 p27 p28 p29 p30 p31 p32 p33 p34 p35 p36 p37 p38 p39 p40 p41 p42 p43 p44 p45 p46 p47 p48 p49 p50 p51 p52 p53 p54 p55 p56 p57 p58 p59 p60 p61 p62 p63 p64 p65 p66 p67 p68 p69 p70 p71 p72 p73 p74 p75 p76 p77 p78 p79 p80 p81 p82 p83 p84 p85 p86 p87 p88 p89 p90 p91 p92 p93 p94 p95 p96 p97 p98 p99 p100 p101 p102 p103 p104 p105 p106 p107 p108 p109 p110 p111 p112 p113 p114 p115 p116 p117 p118 p119 p120 p121 p122 p123 p124 p125 p126 p127 p128 p129 p130 p131 p132 p133 p134 p135 p136 p137 p138 p139 p140 p141 p142 p143 p144 p145 p146 p147 p148 p149 p150 p151 p152 p153 p154 p155 p156 p157 p158 p159 p160 p161 p162 p163 p164 p165 p166 p167 p168 p169 p170 : Pos) : List Stmt :=
  [.Assign [(.Tuple [(.Name "caught" p1), (.Name "answer" p2)] 0 p3)] (.Tuple [(.Constant .none 0 p4), (.Constant .none 0 p5)] 0 p6) p7,
   .Try [.Assign [(.Name "answer" p8)] (.Call (.Name "call" p9) [] [] p10) p11] [.ExceptHandler (some (.Name "CopyError" p12)) (some "e") [.Assign [(.Name "caught" p13)] (.Name "e" p14) p15] p16] [] [] p17,
   .If (.Compare (.Name "caught" p18) [.Is] [(.Constant .none 0 p19)] p20) [.Return (some (.Tuple [(.Constant (.str "returns") 0 p21), (.Name "answer" p22)] 0 p23)) p24] [] p25,
   .Assign [(.Name "some" p26)] (.Dict [some (.Constant (.str "rule") 0 p27), some (.Constant (.str "rules") 0 p28)] [(.Call (.Name "isinstance" p29) [(.Name "caught" p30), (.Name "InvalidWay" p31)] [] p32), (.Call (.Name "isinstance" p33) [(.Name "caught" p34), (.Name "InvalidWays" p35)] [] p36)] p37) p38,
   .Expr (.Call (.Attribute (.Name "some" p39) "update" p40) [(.Dict [some (.Constant (.str "line") 0 p41), some (.Constant (.str "spot") 0 p42)] [(.Call (.Name "isinstance" p43) [(.Name "caught" p44), (.Name "InvalidText" p45)] [] p46), (.Call (.Name "isinstance" p47) [(.Name "caught" p48), (.Name "InvalidPlace" p49)] [] p50)] p51)] [] p52) p53,
   .Expr (.Call (.Attribute (.Name "some" p54) "update" p55) [(.Dict [some (.Constant (.str "words") 0 p56), some (.Constant (.str "sizes") 0 p57)] [(.Call (.Name "isinstance" p58) [(.Name "caught" p59), (.Name "InvalidTokens" p60)] [] p61), (.Call (.Name "isinstance" p62) [(.Name "caught" p63), (.Name "InvalidLengths" p64)] [] p65)] p66)] [] p67) p68,
   .Expr (.Call (.Attribute (.Name "some" p69) "update" p70) [(.Dict [some (.Constant (.str "side") 0 p71), some (.Constant (.str "count") 0 p72)] [(.Call (.Name "isinstance" p73) [(.Name "caught" p74), (.Name "InvalidSight" p75)] [] p76), (.Call (.Name "isinstance" p77) [(.Name "caught" p78), (.Name "InvalidNumber" p79)] [] p80)] p81)] [] p82) p83,
   .Expr (.Call (.Attribute (.Name "some" p84) "update" p85) [(.Dict [some (.Constant (.str "sign") 0 p86), some (.Constant (.str "script") 0 p87)] [(.Call (.Name "isinstance" p88) [(.Name "caught" p89), (.Name "InvalidLetter" p90)] [] p91), (.Call (.Name "isinstance" p92) [(.Name "caught" p93), (.Name "InvalidLine" p94)] [] p95)] p96)] [] p97) p98,
   .Expr (.Call (.Attribute (.Name "some" p99) "update" p100) [(.Dict [some (.Constant (.str "unsure") 0 p101), some (.Constant (.str "alike") 0 p102)] [(.Call (.Name "isinstance" p103) [(.Name "caught" p104), (.Name "NeverSure" p105)] [] p106), (.Call (.Name "isinstance" p107) [(.Name "caught" p108), (.Name "Alike" p109)] [] p110)] p111)] [] p112) p113,
   .Expr (.Call (.Attribute (.Name "some" p114) "update" p115) [(.Dict [some (.Constant (.str "none") 0 p116), some (.Constant (.str "much") 0 p117)] [(.Call (.Name "isinstance" p118) [(.Name "caught" p119), (.Name "NotWritten" p120)] [] p121), (.Call (.Name "isinstance" p122) [(.Name "caught" p123), (.Name "TooMany" p124)] [] p125)] p126)] [] p127) p128,
   .Expr (.Call (.Attribute (.Name "some" p129) "update" p130) [(.Dict [some (.Constant (.str "over") 0 p131), some (.Constant (.str "undo") 0 p132)] [(.Call (.Name "isinstance" p133) [(.Name "caught" p134), (.Name "Ended" p135)] [] p136), (.Call (.Name "isinstance" p137) [(.Name "caught" p138), (.Name "NothingToUndo" p139)] [] p140)] p141)] [] p142) p143,
   .Assign [(.Name "names" p144)] (.ListComp (.Name "name" p145) [⟨(.Name "name" p146), (.Name "some" p147), [(.Subscript (.Name "some" p148) (.Name "name" p149) p150)], 0⟩] resCs p151) p152,
   .Return (some (.IfExp (.BoolOp .And [(.Compare (.Call (.Name "len" p153) [(.Name "names" p154)] [] p155) [.Eq] [(.Constant (.int 1) 0 p156)] p157), (.Call (.Name "isinstance" p158) [(.Name "caught" p159), (.Name "ValueError" p160)] [] p161)] p162) (.Tuple [(.Subscript (.Name "names" p163) (.Constant (.int 0) 0 p164) p165)] 0 p166) (.Tuple [(.Constant (.str "other error") 0 p167)] 0 p168) p169)) p170]
/-- what is seen of the i-th class -/
def resB (K : PySem.W.Frag) (i : Nat) : Bool := match resC[i]? with
  | some (_, cn) => ((List.range 16).all fun j => match resC[j]? with
      | some (_, dn) => decide (PySem.W.kitOne K (.ref (He.ga K cn)) (.ref (He.ga K dn)) = some (decide (i = j)))
      | none => false) && xcB K (He.ga K cn) && decide (PySem.W.exmOne K (.ref (He.ga K cn)) (.ref (He.ga K "CopyError")) = some true) && decide (PySem.W.kitOne K (.ref (He.ga K cn)) (.type "ValueError") = some true)
  | none => false
/-- what is wanted of an exception, of an answer -/
def RxE (K : PySem.W.Frag) (Q : VK) : XK := fun cls d H' => ∃ i nm cn, resC[i]? = some (nm, cn) ∧ cls = .ref (He.ga K cn) ∧ d = none ∧ resB K i = true ∧ ∀ H'' p, (∀ b o, H' b = some o → H'' b = some o) → H' p = none → H'' p = some (.tup [.str nm]) → Q (.ref p) H''
def RxQ (Q : VK) : VK := fun v H' => ∀ p, H' p = none → Q (.ref p) (upd H' p (.tup [.str "returns", v]))
/-- what is made of a call -/
def TRes (K : PySem.W.Frag) : (XK → Hp → VK → Prop) → Hp → VK → Prop := fun tl H Q => ∀ H1 : Hp, (∀ b o, H b = some o → H1 b = some o) → ∀ (E' : XK) (Q' : VK), (∀ cls d H', RxE K Q cls d H' → E' cls d H') → (∀ v H', RxQ Q v H' → Q' v H') → tl E' H1 Q'
theorem mergeK_nd : ∀ (more kvs : List (Key × V)), ((kvs ++ more).map (·.1)).Nodup → mergeK kvs more = kvs ++ more
  | [], kvs, _ => by simp [mergeK]
  | kv :: r, kvs, h => by
    have h1 : valV kvs kv.1 = none := by
      cases e : valV kvs kv.1 with
      | none => rfl
      | some v =>
        exfalso
        unfold valV at e
        cases q : kvs.find? fun x => decide (x.1 = kv.1) with
        | none => rw [q] at e; cases e
        | some z =>
          have hz := List.mem_of_find?_eq_some q
          have hk := List.find?_some q
          rw [List.map_append, List.nodup_append] at h
          exact h.2.2 z.1 (List.mem_map_of_mem (f := (·.1)) hz) kv.1 (by simp) (of_decide_eq_true hk)
    show mergeK (putK kvs kv.1 kv.2) r = _
    rw [putK_new kv.2 h1, mergeK_nd r _ (by rw [List.append_assoc]; exact h), List.append_assoc]
    rfl
/-- the dict's pairs -/
abbrev kvR (i : Nat) (j : Nat) (nm : Str) : Key × V := (Sum.inr nm, .bl (decide (i = j)))
section
variable {X : Cx}
abbrev tIsC (K : PySem.W.Frag) (cn : Str) : TE := tCB (rIsX K) (tCons (tVar 1) (tCons (tC (.ref (He.ga K cn))) tNil))
/-- isinstance(caught, C) -/
theorem pe_isC {cn : Str} {q1 q2 q3 q4 : Pos} (hN : X.N = resN) (hs : X.env.scope = resSc) (hm : X.mg "isinstance" = none) (hg : resSc.names.lookup cn = some .globalImplicit) (hC : X.mg cn = some (.ref (He.ga X.K cn))) (hd : (cn == ("__debug__" : Str)) = false) :
    PE X (.Call (.Name "isinstance" q1) [.Name "caught" q2, .Name cn q3] [] q4) (tIsC X.K cn) :=
  pe_callB call_isX (by show X.env.scope.names.lookup _ = _; rw [hs]; rfl) hm boot_isinstance (pa_cons (pe_var (i := 1) (by rw [hN]; rfl) (by rw [hs]; exact .inl rfl)) (pa_cons (pe_glob (v := .ref (He.ga X.K cn)) (by show X.env.scope.names.lookup _ = _; rw [hs]; exact hg) hC rfl hd) pa_nil))
/-- {k: isinstance(caught, C), l: isinstance(caught, D)} -/
theorem pe_two {k l c d : Str} {q1 q2 q3 q4 q5 q6 q7 q8 q9 q10 q11 : Pos} (h1 : PE X (.Call (.Name "isinstance" q1) [.Name "caught" q2, .Name c q3] [] q4) (tIsC X.K c)) (h2 : PE X (.Call (.Name "isinstance" q5) [.Name "caught" q6, .Name d q7] [] q8) (tIsC X.K d)) :
    PE X (.Dict [some (.Constant (.str k) 0 q9), some (.Constant (.str l) 0 q10)] [.Call (.Name "isinstance" q1) [.Name "caught" q2, .Name c q3] [] q4, .Call (.Name "isinstance" q5) [.Name "caught" q6, .Name d q7] [] q8] q11) (tDisp [(tC (.str k), tIsC X.K c), (tC (.str l), tIsC X.K d)]) :=
  pe_disp (pps_cons pe_str h1 (pps_cons pe_str h2 pps_nil)) rfl rfl (by simp) (by simp)
theorem two_read {K : PySem.W.Frag} {k l c d : Str} {a C : Addr} {b1 b2 : Bool} {σ : L2.St} {H : Hp} {Q : VK} (e1 : σ[1]? = some (some (.ref a))) (ha : H a = some (ExT C a)) (hx : xcB K C = true) (h1 : PySem.W.kitOne K (.ref C) (.ref (He.ga K c)) = some b1) (h2 : PySem.W.kitOne K (.ref C) (.ref (He.ga K d)) = some b2) (hkl : k ≠ l)
    (q : ∀ p, H p = none → Q (.ref p) (upd H p (.dK [(Sum.inr k, .bl b1), (Sum.inr l, .bl b2)]))) : tDisp [(tC (.str k), tIsC K c), (tC (.str l), tIsC K d)] σ H Q := by
  intro p hp
  have ha' : upd H p (.dK []) a = some (ExT C a) := by rw [upd_ne (ne_of_none ha hp)]; exact ha
  have em : mergeK [] [(Sum.inr k, V.bl b1), (Sum.inr l, V.bl b2)] = [(Sum.inr k, V.bl b1), (Sum.inr l, V.bl b2)] := mergeK_nd _ [] (by simp [hkl])
  refine ⟨_, e1, a, C, _, _, b1, rfl, .own _, ha', hx, h1, ?_⟩
  refine ⟨_, e1, a, C, _, _, b2, rfl, .own _, ha', hx, h2, upd_same, [(Sum.inr k, .bl b1), (Sum.inr l, .bl b2)], rfl, by simp, ?_⟩
  rw [em, upd_upd]
  exact q p hp
theorem ps_up {k l c d : Str} {q1 q2 q3 q4 q5 q6 q7 q8 q9 q10 q11 r1 r2 r3 r4 : Pos} (hN : X.N = resN) (hs : X.env.scope = resSc) (hl : (r2.endLine == r3.line) = true) (h1 : PE X (.Call (.Name "isinstance" q1) [.Name "caught" q2, .Name c q3] [] q4) (tIsC X.K c)) (h2 : PE X (.Call (.Name "isinstance" q5) [.Name "caught" q6, .Name d q7] [] q8) (tIsC X.K d)) :
    PS X (.Expr (.Call (.Attribute (.Name "some" r1) "update" r2) [.Dict [some (.Constant (.str k) 0 q9), some (.Constant (.str l) 0 q10)] [.Call (.Name "isinstance" q1) [.Name "caught" q2, .Name c q3] [] q4, .Call (.Name "isinstance" q5) [.Name "caught" q6, .Name d q7] [] q8] q11] [] r3) r4) (tDrop (tDUpd (tVar 4) (tDisp [(tC (.str k), tIsC X.K c), (tC (.str l), tIsC X.K d)]))) :=
  ps_expr (pe_dupd (pe_var (i := 4) (by rw [hN]; rfl) (by rw [hs]; exact .inr (.inl rfl))) (pe_two h1 h2) ⟨rfl, rfl, hl, rfl⟩)
theorem up_read {K : PySem.W.Frag} {k l c d : Str} {a C m : Addr} {b1 b2 : Bool} {σ : L2.St} {H : Hp} {Q : VK} {kvs : List (Key × V)} (e1 : σ[1]? = some (some (.ref a))) (e4 : σ[4]? = some (some (.ref m))) (ha : H a = some (ExT C a)) (hm : H m = some (.dK kvs)) (hx : xcB K C = true) (h1 : PySem.W.kitOne K (.ref C) (.ref (He.ga K c)) = some b1) (h2 : PySem.W.kitOne K (.ref C) (.ref (He.ga K d)) = some b2)
    (hkl : ((kvs ++ [(Sum.inr k, V.bl b1), (Sum.inr l, V.bl b2)]).map fun z : Key × V => z.1).Nodup) (hl : kvs.length ≤ 100)
    (q : ∀ H', (∀ b o, b ≠ m → H b = some o → H' b = some o) → H' m = some (.dK (kvs ++ [(Sum.inr k, .bl b1), (Sum.inr l, .bl b2)])) → Q .non H') : tDUpd (tVar 4) (tDisp [(tC (.str k), tIsC K c), (tC (.str l), tIsC K d)]) σ H Q := by
  have kl : k ≠ l := fun z => by
    rw [List.map_append, List.nodup_append] at hkl
    have := hkl.2.1
    simp [z] at this
  refine ⟨_, e4, m, rfl, .inl ⟨_, .inl hm⟩, two_read e1 ha hx h1 h2 kl fun p hp => ⟨p, kvs, _, rfl, ?_, upd_same, ne_of_none hm hp, ?_, ?_⟩⟩
  · rw [upd_ne (ne_of_none hm hp)]
    exact hm
  · rw [sizeLine_eq]
    simp
    omega
  · refine q _ (fun b o hb e => ?_) ?_
    · rw [upd_ne hb, upd_ne (ne_of_none e hp)]
      exact e
    · rw [upd_same, mergeK_nd _ _ hkl]
end
/-- whose class it is -/
structure ResIs (K : PySem.W.Frag) (i : Nat) (C : Addr) : Prop where
  x : xcB K C = true
  k : ∀ j p, resC[j]? = some p → PySem.W.kitOne K (.ref C) (.ref (He.ga K p.2)) = some (decide (i = j))
  e : PySem.W.exmOne K (.ref C) (.ref (He.ga K "CopyError")) = some true
  v : PySem.W.kitOne K (.ref C) (.type "ValueError") = some true
theorem resB_is {K : PySem.W.Frag} {i : Nat} {nm cn : Str} (hi : resC[i]? = some (nm, cn)) (h : resB K i = true) : ResIs K i (He.ga K cn) := by
  unfold resB at h
  rw [hi] at h
  simp only [Bool.and_eq_true, decide_eq_true_eq, List.all_eq_true] at h
  obtain ⟨⟨⟨h1, h2⟩, h3⟩, h4⟩ := h
  refine ⟨h2, fun j p hj => ?_, h3, h4⟩
  have hl : j < 16 := (List.getElem?_eq_some_iff.mp hj).1
  have := h1 j (List.mem_range.mpr hl)
  rw [hj] at this
  exact of_decide_eq_true this
section
variable {P : Program} {w : World} {K : PySem.W.Frag} {mg : Str → Option Value} {base : Heap} {g : Addr} {cdg : Value} {A : Around} {outer : List Env} {s : Shared} {H0 : Hp}
abbrev XR (P : Program) (w : World) (K : PySem.W.Frag) (mg : Str → Option Value) (base : Heap) (g : Addr) (cdg : Value) (A : Around) (outer : List Env) (s : Shared) (H0 : Hp) : Cx := (cxOf C8.CX0 P w K mg base resN "_law_result" resSc g cdg A outer s H0 C8.E0).nox
theorem resNd : resN.Nodup := by decide +kernel
theorem ps_names {q1 q2 q3 q4 q5 q6 q7 q8 q9 : Pos} (hu : (XR P w K mg base g cdg A outer s H0).A.units + 1 < cLine) (hl : (q1.line == q7.line) = true) :
    PS (XR P w K mg base g cdg A outer s H0) (.Assign [.Name "names" q1] (.ListComp (.Name "name" q2) [⟨.Name "name" q3, .Name "some" q4, [.Subscript (.Name "some" q5) (.Name "name" q6) q8], 0⟩] resCs q7) q9)
      (tLock (tAsg (tLc (iKeys (tVar 4)) (gName 6) (tB (tDGet (tVar 4) (tVar 6))) (tVar 6) [6]) (gName 5))) :=
  ps_lock (ps_setLc (i := 5) (own := [("name", 6)]) (g := gName 6) rfl resNd rfl rfl (sw_true rfl rfl hl (by decide +kernel)) (pi_keys (pe_var (i := 4) rfl (.inr (.inl rfl)))) (blkOk_by (N := resN) (sc := resSc) (by decide +kernel))
    (fun _ _ _ _ _ => pg_name (i := 6) resNd rfl (Or.inl rfl))
    (fun _ _ _ _ _ => pts_one (pt_val (pe_dget hu (pe_var (i := 4) rfl (.inr (.inl rfl))) (pe_var (i := 6) rfl (.inl rfl)) (fun _ _ => rfl))))
    (fun _ _ _ _ _ => pe_var (i := 6) rfl (.inl rfl)))
theorem valV_mem {k : Key} {v : V} : ∀ {kvs : List (Key × V)}, (kvs.map (·.1)).Nodup → (k, v) ∈ kvs → valV kvs k = some v
  | p :: r, hn, hm => by
    obtain ⟨n1, n2⟩ := List.nodup_cons.mp hn
    rcases List.mem_cons.mp hm with e | hm
    · subst e
      exact valV_pos rfl
    · rw [valV_neg (fun e => n1 (by show p.1 ∈ _; rw [e]; exact List.mem_map_of_mem (f := (·.1)) hm))]
      exact valV_mem n2 hm
/-- the names that are told: those of the class -/
def pick (kvs : List (Key × V)) : List V := (kvs.filter fun kv => decide (kv.2 = .bl true)).map fun kv => kV kv.1
theorem names_read {m : Addr} {σ : L2.St} {H : Hp} {D : Ends} {kvs : List (Key × V)} (hl : 6 < σ.length) (hn : kvs.length ≤ 100) (e4 : σ[4]? = some (some (.ref m))) (hm : H m = some (.dK kvs)) (hk : (kvs.map (·.1)).Nodup) (hb : ∀ kv ∈ kvs, ∃ b, kv.2 = .bl b)
    (q : ∀ H' L, (∀ b o, H b = some o → H' b = some o) → H' L = some (.lst (pick kvs)) → D.nx (σ.set 5 (some (.ref L))) H') :
    tLock (tAsg (tLc (iKeys (tVar 4)) (gName 6) (tB (tDGet (tVar 4) (tVar 6))) (tVar 6) [6]) (gName 5)) D σ H := by
  refine ⟨m, _, hm, trivial, fun od => ⟨_, e4, m, od, rfl, .inl ⟨kvs, upd_same, fun L hL => ?_⟩⟩⟩
  have neL : L ≠ m := fun z => by rw [z, upd_same] at hL; cases hL
  have h0L : H L = none := by rw [upd_ne neL] at hL; exact hL
  refine lc_it walk_keys (Pv := fun i H' => (∀ b o, b ≠ m → H b = some o → H' b = some o) ∧ H' m = some (.frz od (.dK kvs)) ∧ H' L = some (.lst (pick (kvs.take i)))) ?_ (fun i H' _ z => z.2.1) ?_ ?_
  · refine ⟨fun b o hb e => ?_, ?_, upd_same⟩
    · rw [upd_ne (ne_of_none e h0L), upd_ne hb]
      exact e
    · rw [upd_ne (Ne.symm neL), upd_same]
  · rintro i x H1 H2 hi ⟨a1, a2, a3⟩ ⟨rfl, k, v, hkv, rfl⟩
    have hmem := List.mem_of_getElem? hkv
    obtain ⟨b, hv⟩ := hb _ hmem
    have hv : v = .bl b := hv
    have hil : i < kvs.length := hi
    have e6 : ((wipe σ [6]).set 6 (some (kV k)))[6]? = some (some (kV k)) := by
      simp [wipe, hl]
    have e4' : ((wipe σ [6]).set 6 (some (kV k)))[4]? = some (some (.ref m)) := by
      simp [wipe, e4]
    have hg : DGet H2 m (kV k) (some v) := .inl ⟨kvs, k, .inr ⟨od, a2⟩, rfl, (valV_mem hk hmem).symm⟩
    · refine ⟨?_, _, e4', _, e6, m, v, rfl, hg, b, hv, ?_⟩
      · simp [wipe, gName]
      · have htk : kvs.take (i + 1) = kvs.take i ++ [(k, v)] := by
          rw [List.take_add_one, hkv]
          rfl
        have hpk : pick (kvs.take (i + 1)) = pick (kvs.take i) ++ (if b = true then [kV k] else []) := by
          rw [htk]
          unfold pick
          rw [List.filter_append, List.map_append]
          congr 1
          subst hv
          cases b <;> simp
        cases b with
        | false => exact iteF ⟨a1, a2, by rw [hpk]; simpa using a3⟩
        | true =>
          refine iteT ⟨_, e6, _, a3, ?_, fun b o hb e => ?_, ?_, ?_⟩
          · have : (pick (kvs.take i)).length ≤ 100 := by
              unfold pick
              rw [List.length_map]
              refine Nat.le_trans (List.length_filter_le _ _) ?_
              rw [List.length_take]
              omega
            rw [sizeLine_eq]
            omega
          · rw [upd_ne (ne_of_none e h0L)]
            exact a1 b o hb e
          · rw [upd_ne (Ne.symm neL)]
            exact a2
          · rw [upd_same, hpk]
            rfl
  · rintro H1 ⟨a1, a2, a3⟩
    rw [List.take_length] at a3
    refine ⟨a2, q _ _ (fun b o e => ?_) ?_⟩
    · by_cases hbm : b = m
      · subst hbm
        rw [hm] at e
        cases e
        exact upd_same
      · rw [upd_ne hbm]
        exact a1 b o hbm e
    · rw [upd_ne neL]
      exact a3
/-- the last row -/
theorem ps_told {q1 q2 q3 q4 q5 q6 q7 q8 q9 q10 q11 q12 q13 q14 q15 q16 q17 q18 : Pos} (hm : mg "isinstance" = none) (hlen : mg "len" = none) (hve : mg "ValueError" = none) :
    PS (XR P w K mg base g cdg A outer s H0) (.Return (some (.IfExp (.BoolOp .And [(.Compare (.Call (.Name "len" q1) [(.Name "names" q2)] [] q3) [.Eq] [(.Constant (.int 1) 0 q4)] q5), (.Call (.Name "isinstance" q6) [(.Name "caught" q7), (.Name "ValueError" q8)] [] q9)] q10) (.Tuple [(.Subscript (.Name "names" q11) (.Constant (.int 0) 0 q12) q13)] 0 q14) (.Tuple [(.Constant (.str "other error") 0 q15)] 0 q16) q17)) q18)
      (tRet (tIf (tAnd (tTest (tOp rEq (tCB (fun xs H Q => ∃ x n, xs = [x] ∧ LenV K x H n ∧ Q (.int n) H) (tCons (tVar 5) tNil)) (tC (.int 1)))) (tB (tCB (rIsX K) (tCons (tVar 1) (tCons (tC (.ty "ValueError")) tNil))))) (tTup (tCons (tOp (rIxL K) (tVar 5) (tC (.int 0))) tNil)) (tTup (tCons (tC (.str "other error")) tNil)))) :=
  ps_ret (pe_ifExp (PW.pt (pw_and (pt_cmpR op_eq (pe_callB call_len rfl hlen boot_len (pa_cons (pe_var (i := 5) rfl (.inl rfl)) pa_nil)) pe_int (nomark _)) (pw_and1 (pt_val (pe_callB call_isX rfl hm boot_isinstance (pa_cons (pe_var (i := 1) rfl (.inl rfl)) (pa_cons (pe_bltn (v := .ty "ValueError") rfl hve (by decide +kernel) rfl) pa_nil)))))))
    (pe_tup (pa_cons (pe_ix ix_list (pe_var (i := 5) rfl (.inl rfl)) pe_int (fun _ _ => rfl)) pa_nil)) (pe_tup (pa_cons pe_str pa_nil)))
abbrev kvAll (i : Nat) : List (Key × V) := [kvR i 0 "rule", kvR i 1 "rules", kvR i 2 "line", kvR i 3 "spot", kvR i 4 "words", kvR i 5 "sizes", kvR i 6 "side", kvR i 7 "count", kvR i 8 "sign", kvR i 9 "script", kvR i 10 "unsure", kvR i 11 "alike", kvR i 12 "none", kvR i 13 "much", kvR i 14 "over", kvR i 15 "undo"]
theorem kvAll_bl (i : Nat) : ∀ kv ∈ kvAll i, ∃ b, kv.2 = .bl b := fun kv h => by
  simp only [kvAll, List.mem_cons, List.not_mem_nil, or_false] at h
  rcases h with rfl | rfl | rfl | rfl | rfl | rfl | rfl | rfl | rfl | rfl | rfl | rfl | rfl | rfl | rfl | rfl <;> exact ⟨_, rfl⟩
theorem ndAll : (resC.map fun p => (Sum.inr p.1 : Key)).Nodup := by decide +kernel
theorem nd4 : ((resC.take 4).map fun p => (Sum.inr p.1 : Key)).Nodup := by decide +kernel
theorem nd6 : ((resC.take 6).map fun p => (Sum.inr p.1 : Key)).Nodup := by decide +kernel
theorem nd8 : ((resC.take 8).map fun p => (Sum.inr p.1 : Key)).Nodup := by decide +kernel
theorem nd10 : ((resC.take 10).map fun p => (Sum.inr p.1 : Key)).Nodup := by decide +kernel
theorem nd12 : ((resC.take 12).map fun p => (Sum.inr p.1 : Key)).Nodup := by decide +kernel
theorem nd14 : ((resC.take 14).map fun p => (Sum.inr p.1 : Key)).Nodup := by decide +kernel
theorem nd16 : ((resC.take 16).map fun p => (Sum.inr p.1 : Key)).Nodup := by decide +kernel
theorem pick_one {i : Nat} {nm cn : Str} (hi : resC[i]? = some (nm, cn)) : pick (kvAll i) = [.str nm] := by
  have hl : i < 16 := (List.getElem?_eq_some_iff.mp hi).1
  match i, hl with
  | 0, _ => cases hi; rfl
  | 1, _ => cases hi; rfl
  | 2, _ => cases hi; rfl
  | 3, _ => cases hi; rfl
  | 4, _ => cases hi; rfl
  | 5, _ => cases hi; rfl
  | 6, _ => cases hi; rfl
  | 7, _ => cases hi; rfl
  | 8, _ => cases hi; rfl
  | 9, _ => cases hi; rfl
  | 10, _ => cases hi; rfl
  | 11, _ => cases hi; rfl
  | 12, _ => cases hi; rfl
  | 13, _ => cases hi; rfl
  | 14, _ => cases hi; rfl
  | 15, _ => cases hi; rfl
theorem res_gives {X : Cx} {q : Str} {p1 p2 p3 p4 p5 p6 p7 p8 p9 p10 p11 p12 p13 p14 p15 p16 p17 p18 p19 p20 p21 p22 p23 p24 p25 p26 p27 p28 p29 p30 p31 p32 p33 p34 p35 p36 p37 p38 p39 p40 p41 p42 p43 p44 p45 p46 p47 p48 p49 p50 p51 p52 p53 p54 p55 p56 p57 p58 p59 p60 p61 p62 p63 p64 p65 p66 p67 p68 p69 p70 p71 p72 p73 p74 p75 p76 p77 p78 p79 p80 p81 p82 p83 p84 p85 p86 p87 p88 p89 p90 p91 p92 p93 p94 p95 p96 p97 p98 p99 p100 p101 p102 p103 p104 p105 p106 p107 p108 p109 p110 p111 p112 p113 p114 p115 p116 p117 p118 p119 p120 p121 p122 p123 p124 p125 p126 p127 p128 p129 p130 p131 p132 p133 p134 p135 p136 p137 p138 p139 p140 p141 p142 p143 p144 p145 p146 p147 p148 p149 p150 p151 p152 p153 p154 p155 p156 p157 p158 p159 p160 p161 p162 p163 p164 p165 p166 p167 p168 p169 p170 : Pos} (l1 : (p40.endLine == p52.line) = true) (l2 : (p55.endLine == p67.line) = true) (l3 : (p70.endLine == p82.line) = true) (l4 : (p85.endLine == p97.line) = true) (l5 : (p100.endLine == p112.line) = true) (l6 : (p115.endLine == p127.line) = true) (l7 : (p130.endLine == p142.line) = true) (l8 : (p144.line == p151.line) = true)
    (hC : ∀ p ∈ resC, X.mg p.2 = some (.ref (He.ga X.K p.2))) (hE : X.mg "CopyError" = some (.ref (He.ga X.K "CopyError"))) (hm : X.mg "isinstance" = none) (hlen : X.mg "len" = none) (hve : X.mg "ValueError" = none) (hu : ∀ e : Env, (X.A.deeper e).units + 1 < cLine) :
    LamX.GivesTo X resN "_law_result" resSc g cdg (lresB p1 p2 p3 p4 p5 p6 p7 p8 p9 p10 p11 p12 p13 p14 p15 p16 p17 p18 p19 p20 p21 p22 p23 p24 p25 p26 p27 p28 p29 p30 p31 p32 p33 p34 p35 p36 p37 p38 p39 p40 p41 p42 p43 p44 p45 p46 p47 p48 p49 p50 p51 p52 p53 p54 p55 p56 p57 p58 p59 p60 p61 p62 p63 p64 p65 p66 p67 p68 p69 p70 p71 p72 p73 p74 p75 p76 p77 p78 p79 p80 p81 p82 p83 p84 p85 p86 p87 p88 p89 p90 p91 p92 p93 p94 p95 p96 p97 p98 p99 p100 p101 p102 p103 p104 p105 p106 p107 p108 p109 p110 p111 p112 p113 p114 p115 p116 p117 p118 p119 p120 p121 p122 p123 p124 p125 p126 p127 p128 p129 p130 p131 p132 p133 p134 p135 p136 p137 p138 p139 p140 p141 p142 p143 p144 p145 p146 p147 p148 p149 p150 p151 p152 p153 p154 p155 p156 p157 p158 p159 p160 p161 p162 p163 p164 p165 p166 p167 p168 p169 p170) "call" q (TRes X.K) := by
  intro f c' s H Q tl act hc h
  have gl : ∀ {n : Nat} {nm cn : Str}, resC[n]? = some (nm, cn) → X.mg cn = some (.ref (He.ga X.K cn)) := fun e => hC _ (List.mem_of_getElem? e)
  refine ⟨_, pss_cons (ps_asg (pe_tup (pa_cons pe_non (pa_cons pe_non pa_nil))) (pg_tup rfl (pgs_cons (pg_name (i := 1) resNd rfl (.inl rfl)) (pgs_cons (pg_name (i := 2) resNd rfl (.inl rfl)) pgs_nil))) (hw := swapped_no rfl))
    (pss_cons (ps_try_keep (X := XR X.prog X.w X.K X.mg X.base g cdg X.A X.stack s H) (i := 3) (j := 1) (c := .ref (He.ga X.K "CopyError")) rfl rfl resNd rfl rfl rfl rfl (by decide) rfl ⟨rfl, by decide, .inl hE⟩ ⟨by decide, by decide⟩
      (tb := fun W D σ H => ∃ Ech : XK, (∀ cls d σ' H', Ech cls d H' → W cls d σ' H') ∧ σ[0]? = some (some (.ref f)) ∧ H c' = some (LamX.CodeO c' q) ∧ tl Ech H fun v H' => D.nx (σ.set 2 (some v)) H') (fun W pn xe tk _ => ⟨fun pins s' σ H' D I h' => ?_⟩))
    (pss_cons (ps_if (pt_cmpR op_isN (pe_var (i := 1) rfl (.inl rfl)) pe_non (nomark _)) (pss_one (ps_ret (pe_tup (pa_cons pe_str (pa_cons (pe_var (i := 2) rfl (.inl rfl)) pa_nil))))) pss_nil)
    (pss_cons (ps_set (i := 4) resNd rfl (.inr rfl) (pe_two (pe_isC rfl rfl hm rfl (gl (n := 0) rfl) (by decide)) (pe_isC rfl rfl hm rfl (gl (n := 1) rfl) (by decide))))
    (pss_cons (ps_up rfl rfl l1 (pe_isC rfl rfl hm rfl (gl (n := 2) rfl) (by decide)) (pe_isC rfl rfl hm rfl (gl (n := 3) rfl) (by decide)))
    (pss_cons (ps_up rfl rfl l2 (pe_isC rfl rfl hm rfl (gl (n := 4) rfl) (by decide)) (pe_isC rfl rfl hm rfl (gl (n := 5) rfl) (by decide)))
    (pss_cons (ps_up rfl rfl l3 (pe_isC rfl rfl hm rfl (gl (n := 6) rfl) (by decide)) (pe_isC rfl rfl hm rfl (gl (n := 7) rfl) (by decide)))
    (pss_cons (ps_up rfl rfl l4 (pe_isC rfl rfl hm rfl (gl (n := 8) rfl) (by decide)) (pe_isC rfl rfl hm rfl (gl (n := 9) rfl) (by decide)))
    (pss_cons (ps_up rfl rfl l5 (pe_isC rfl rfl hm rfl (gl (n := 10) rfl) (by decide)) (pe_isC rfl rfl hm rfl (gl (n := 11) rfl) (by decide)))
    (pss_cons (ps_up rfl rfl l6 (pe_isC rfl rfl hm rfl (gl (n := 12) rfl) (by decide)) (pe_isC rfl rfl hm rfl (gl (n := 13) rfl) (by decide)))
    (pss_cons (ps_up rfl rfl l7 (pe_isC rfl rfl hm rfl (gl (n := 14) rfl) (by decide)) (pe_isC rfl rfl hm rfl (gl (n := 15) rfl) (by decide)))
    (pss_cons (ps_names (hu _) l8) (pss_one (ps_told hm hlen hve))))))))))))), ?_⟩
  · obtain ⟨Ech, hW, h1, h2, h3⟩ := h'
    exact (pss_one (ps_set (i := 2) resNd rfl (.inl rfl) (act W pn xe Ech p9 p10 tk hW))).run pins s' σ H' D I ⟨h1, h2, h3⟩
  refine ⟨by rw [sizeLine_eq]; decide, fun t ht => ⟨t, _, rfl, SqT.of upd_same, rfl, _, _, rfl, _, _, rfl, rfl, ?_⟩⟩
  have k1 : ∀ b o, H b = some o → upd H t (.tup [.non, .non]) b = some o := fun b o e => by rw [upd_ne (ne_of_none e ht)]; exact e
  refine ⟨RxE X.K Q, ?_, rfl, k1 _ _ hc, h _ k1 _ _ (fun _ _ _ z => z) ?_⟩
  · -- an exception
    rintro cls d σ' H' ⟨i, nm, cn, hi, rfl, rfl, hB, fin⟩
    have R := resB_is hi hB
    refine ⟨_, rfl, rfl, R.e, fun a na hl => ?_⟩
    obtain ⟨s0, s1, s2, s3, s4, s5, s6, rfl⟩ : ∃ s0 s1 s2 s3 s4 s5 s6, σ' = [s0, s1, s2, s3, s4, s5, s6] := by
      have hl : σ'.length = 7 := hl
      match σ', hl with
      | [s0, s1, s2, s3, s4, s5, s6], _ => exact ⟨s0, s1, s2, s3, s4, s5, s6, rfl⟩
    have k2 : ∀ b o, H' b = some o → upd H' a (ExT (He.ga X.K cn) a) b = some o := fun b o e => by rw [upd_ne (ne_of_none e na)]; exact e
    refine ⟨_, rfl, rfl, _, rfl, iteF ?_⟩
    dsimp only [tNext, tSeq, tAsg, tDrop, gName]
    refine two_read (C := He.ga X.K cn) (a := a) rfl upd_same R.x (R.k 0 _ rfl) (R.k 1 _ rfl) (by decide) fun m hm0 => ?_
    have nam : a ≠ m := fun z => by rw [← z, upd_same] at hm0; cases hm0
    have m0 : H' m = none := by
      rw [upd_ne (Ne.symm nam)] at hm0
      exact hm0
    have km : ∀ b o, H' b = some o → b ≠ m := fun b o e => ne_of_none e m0
    have a3 : upd (upd H' a (ExT (He.ga X.K cn) a)) m (.dK [kvR i 0 "rule", kvR i 1 "rules"]) a = some (ExT (He.ga X.K cn) a) := by rw [upd_ne nam, upd_same]
    have k3 : ∀ b o, H' b = some o → upd (upd H' a (ExT (He.ga X.K cn) a)) m (.dK [kvR i 0 "rule", kvR i 1 "rules"]) b = some o := fun b o e => by rw [upd_ne (km b o e)]; exact k2 b o e
    refine up_read (K := X.K) (C := He.ga X.K cn) (kvs := [kvR i 0 "rule", kvR i 1 "rules"]) rfl rfl a3 upd_same R.x (R.k 2 _ rfl) (R.k 3 _ rfl) (show List.Nodup _ from nd4) (by simp) fun H4 z4 m4 => ?_
    have a4 := z4 a _ nam a3
    have k4 : ∀ b o, H' b = some o → H4 b = some o := fun b o e => z4 b o (km b o e) (k3 b o e)
    refine up_read (K := X.K) (C := He.ga X.K cn) (kvs := [kvR i 0 "rule", kvR i 1 "rules", kvR i 2 "line", kvR i 3 "spot"]) rfl rfl a4 m4 R.x (R.k 4 _ rfl) (R.k 5 _ rfl) (show List.Nodup _ from nd6) (by simp) fun H5 z5 m5 => ?_
    have a5 := z5 a _ nam a4
    have k5 : ∀ b o, H' b = some o → H5 b = some o := fun b o e => z5 b o (km b o e) (k4 b o e)
    refine up_read (K := X.K) (C := He.ga X.K cn) (kvs := [kvR i 0 "rule", kvR i 1 "rules", kvR i 2 "line", kvR i 3 "spot", kvR i 4 "words", kvR i 5 "sizes"]) rfl rfl a5 m5 R.x (R.k 6 _ rfl) (R.k 7 _ rfl) (show List.Nodup _ from nd8) (by simp) fun H6 z6 m6 => ?_
    have a6 := z6 a _ nam a5
    have k6 : ∀ b o, H' b = some o → H6 b = some o := fun b o e => z6 b o (km b o e) (k5 b o e)
    refine up_read (K := X.K) (C := He.ga X.K cn) (kvs := [kvR i 0 "rule", kvR i 1 "rules", kvR i 2 "line", kvR i 3 "spot", kvR i 4 "words", kvR i 5 "sizes", kvR i 6 "side", kvR i 7 "count"]) rfl rfl a6 m6 R.x (R.k 8 _ rfl) (R.k 9 _ rfl) (show List.Nodup _ from nd10) (by simp) fun H7 z7 m7 => ?_
    have a7 := z7 a _ nam a6
    have k7 : ∀ b o, H' b = some o → H7 b = some o := fun b o e => z7 b o (km b o e) (k6 b o e)
    refine up_read (K := X.K) (C := He.ga X.K cn) (kvs := [kvR i 0 "rule", kvR i 1 "rules", kvR i 2 "line", kvR i 3 "spot", kvR i 4 "words", kvR i 5 "sizes", kvR i 6 "side", kvR i 7 "count", kvR i 8 "sign", kvR i 9 "script"]) rfl rfl a7 m7 R.x (R.k 10 _ rfl) (R.k 11 _ rfl) (show List.Nodup _ from nd12) (by simp) fun H8 z8 m8 => ?_
    have a8 := z8 a _ nam a7
    have k8 : ∀ b o, H' b = some o → H8 b = some o := fun b o e => z8 b o (km b o e) (k7 b o e)
    refine up_read (K := X.K) (C := He.ga X.K cn) (kvs := [kvR i 0 "rule", kvR i 1 "rules", kvR i 2 "line", kvR i 3 "spot", kvR i 4 "words", kvR i 5 "sizes", kvR i 6 "side", kvR i 7 "count", kvR i 8 "sign", kvR i 9 "script", kvR i 10 "unsure", kvR i 11 "alike"]) rfl rfl a8 m8 R.x (R.k 12 _ rfl) (R.k 13 _ rfl) (show List.Nodup _ from nd14) (by simp) fun H9 z9 m9 => ?_
    have a9 := z9 a _ nam a8
    have k9 : ∀ b o, H' b = some o → H9 b = some o := fun b o e => z9 b o (km b o e) (k8 b o e)
    refine up_read (K := X.K) (C := He.ga X.K cn) (kvs := [kvR i 0 "rule", kvR i 1 "rules", kvR i 2 "line", kvR i 3 "spot", kvR i 4 "words", kvR i 5 "sizes", kvR i 6 "side", kvR i 7 "count", kvR i 8 "sign", kvR i 9 "script", kvR i 10 "unsure", kvR i 11 "alike", kvR i 12 "none", kvR i 13 "much"]) rfl rfl a9 m9 R.x (R.k 14 _ rfl) (R.k 15 _ rfl) (show List.Nodup _ from nd16) (by simp) fun H10 z10 m10 => ?_
    have a10 := z10 a _ nam a9
    have k10 : ∀ b o, H' b = some o → H10 b = some o := fun b o e => z10 b o (km b o e) (k9 b o e)
    refine names_read (kvs := kvAll i) (by simp) (by simp) rfl m10 ndAll (kvAll_bl i) fun H11 L z11 hL => ?_
    rw [pick_one hi] at hL
    have a11 := z11 a _ a10
    refine ⟨_, rfl, _, 1, rfl, .inl ⟨_, SqL.of hL, rfl⟩, rfl, _, rfl, iteT ?_⟩
    refine ⟨_, rfl, a, _, _, _, true, rfl, .ty _, a11, R.x, R.v, true, rfl, iteT ?_⟩
    refine ⟨_, rfl, L, _, 0, .str nm, rfl, rfl, SqL.of hL, rfl, by rw [sizeLine_eq]; show 1 ≤ _; decide, fun p hp => ?_⟩
    refine fin _ p (fun b o e => ?_) ?_ upd_same
    · have := z11 b o (k10 b o e)
      rw [upd_ne (ne_of_none this hp)]
      exact this
    · cases e : H' p with
      | none => rfl
      | some o =>
        have := z11 p o (k10 p o e)
        rw [hp] at this
        cases this
  · intro v H' fin
    exact ⟨_, rfl, rfl, _, rfl, iteT ⟨_, rfl, by rw [sizeLine_eq]; show 2 ≤ _; decide, fin⟩⟩
end
end Bk
/-! BkF: the soundness of expressions. -/
namespace Bk
open PySem PySem.Spec PyProof.Rows L2

/-- what is wanted of an exception of a class -/
def exE (mg : Str → Option Value) (G : Nm) (E : XK) (c : Nat) (H : Hp) : Prop := ∀ C, mg (G.enm c) = some (.ref C) → E (.ref C) none H
/-- what is wanted behind -/
def Po {β : Type} (K : PySem.W.Frag) (mg : Str → Option Value) (G : Nm) (S : Sg) (H : Hp) (h : Hq) (q : Sg → Hp → β → Prop) (E : XK) : Rx β → Prop
  | .ok x => ∀ S' H', Ext S H S' H' → RelH K S' H' h → q S' H' x
  | .ex c => ∀ S' H', Ext S H S' H' → RelH K S' H' h → exE mg G E c H'
theorem Po.up {β : Type} {K : PySem.W.Frag} {mg : Str → Option Value} {G : Nm} {S S1 : Sg} {H H1 : Hp} {h : Hq} {q : Sg → Hp → β → Prop} {E : XK} (x : Ext S H S1 H1) : ∀ r : Rx β, Po K mg G S H h q E r → Po K mg G S1 H1 h q E r
  | .ok a, p => fun S' H' x' r' => p S' H' (x.trans x') r'
  | .ex c, p => fun S' H' x' r' => p S' H' (x.trans x') r'
def qV (K : PySem.W.Frag) (Q : VK) : Sg → Hp → Vv → Prop := fun S H x => ∀ v, RW K S H x v → Q v H
def qVs (K : PySem.W.Frag) (Q : List V → Hp → Prop) : Sg → Hp → List Vv → Prop := fun S H x => ∀ vs, RWs K S H x vs → Q vs H
def qB {β : Type} (Q : β → Hp → Prop) : Sg → Hp → β → Prop := fun _ H x => Q x H

/-- a def's promise -/
def PoC (K : PySem.W.Frag) (mg : Str → Option Value) (G : Nm) (S : Sg) (H : Hp) (Q : VK) (E : XK) : Rx D → Prop
  | .ok d => ∀ S' v H', Ext S H S' H' → S'.as = [] → RelH K S' H' [] → RV K S' H' d v → Q v H'
  | .ex c => ∀ S' H', Ext S H S' H' → S'.as = [] → RelH K S' H' [] → exE mg G E c H'
def spC (K : PySem.W.Frag) (mg : Str → Option Value) (G : Nm) (cl : Cl) (f : Nat) : Sp := fun vs H Q E => vs.length = (G.fps f).length ∧ ∃ S ds, S.as = [] ∧ RelH K S H [] ∧ RVs K S H ds vs ∧ (cl f ds).All (PoC K mg G S H Q E)

abbrev veTail : List Value := [.type "ValueError", .type "Exception", .type "BaseException", .type "object"]
abbrev bltN : List Str := ["len", "min", "max", "sum", "all", "any", "tuple", "list", "abs", "str", "int", "bool", "isinstance", "range", "enumerate", "zip", "sorted", "set", "dict"]
/-- the answer-teller stands, and does what it should; the classes that it tells -/
structure ResW (P : Program) (w : World) (K : PySem.W.Frag) (mg : Str → Option Value) (base : Heap) (G : Nm) : Prop where
  fn : ∃ (g : Addr) (oc : Value) (od : Option Addr) (pg : Arguments) (bg : List Stmt) (dV kV doc pm : Value) (an : Option Addr) (cdv ct : Value) (osl : Array (Option Value)), mg "_law_result" = some (.ref g) ∧ PySem.W.keepIn K (.ref g) = true ∧
    K.lookup g = some ⟨oc, od, .func (PySem.W.fnOf "_law_result" "_law_result" pg bg resSc dV kV doc pm an cdv ct), osl⟩ ∧ PySem.W.codeIn K cdv "_law_result" = true ∧ L2.Binds K (PySem.W.fnOf "_law_result" "_law_result" pg bg resSc dV kV doc pm an cdv ct) ["call"] [] ∧
    ∀ X : Cx, X.prog = P → X.w = w → X.K = K → X.mg = mg → X.base = base → (∀ e : Env, (X.A.deeper e).units + 1 < cLine) → ∀ q, LamX.GivesTo X resN "_law_result" resSc g cdv bg "call" q (TRes K)
  cls : ∀ c i s, exNm c = some (i, s) → ∀ C, mg (G.enm c) = some (.ref C) → ∃ nm : Str, resC[i]? = some (nm, G.enm c) ∧ nm = ⟨s.toArray⟩ ∧ C = He.ga K (G.enm c) ∧ resB K i = true
/-- what the top leaves: the built-ins' names are free, the defs keep their promises, the constants and the exceptions stand -/
structure Wok (P : Program) (w : World) (K : PySem.W.Frag) (mg : Str → Option Value) (base : Heap) (k : Nat) (G : Nm) (gc : Gc) (cl : Cl) : Prop where
  blt : ∀ x ∈ bltN, mg x = none
  fn : ∀ f ∈ G.fs, ∃ (fa : Addr) (fd : FuncData), mg (G.fnm f) = some (.ref fa) ∧ PySem.W.keepIn K (.ref fa) = true ∧ Binds K fd (G.fps f) [] ∧
    (f ∈ G.ks → ∀ (s : Shared) (us ws : List Value), K.In s.heap → (us ++ ws).length = (G.fps f).length → BindsTo s fd ⟨us, ((G.fps f).drop us.length).zip ws⟩ ((G.fps f).zip (us ++ ws))) ∧
    FnOk P w K mg base (L2.CX P w) (3 * k) fa fd (G.fps f) (spC K mg G cl f)
  glo : ∀ g ∈ G.gs, ∃ a, mg (G.gnm g) = some (.ref a) ∧ ∀ S H, RV K S H (gc g) (.ref a)
  exc : ∀ c ∈ G.es, ∃ C, mg (G.enm c) = some (.ref C) ∧ PySem.W.excIn K C veTail "ValueError.__new__" = true ∧ PySem.W.keepIn K (.ref C) = true ∧ PySem.W.subIn K (.ref C) (.type "BaseException") = some true ∧ PySem.W.typeIn K (.ref C) = some (.type "type")
  res : G.rs = true → ResW P w K mg base G
  tab : ∀ x ∈ tdf K, LamX.TabB base mg (He.cT K (x, none)).1 (He.cT K (x, none)).2
  tun : ∀ p ∈ tbl K, ∀ q ∈ tbl K, p.1 = q.1 → p.2 = q.2
theorem Wok.lm {P : Program} {w : World} {K : PySem.W.Frag} {mg : Str → Option Value} {base : Heap} {k : Nat} {G : Nm} {gc : Gc} {cl : Cl} {b : Bool} (W : Wok P w K mg base k G gc cl) : Wok P w K mg base k { G with lm := b } gc cl :=
  ⟨W.blt, W.fn, W.glo, W.exc, fun h => ⟨(W.res h).fn, (W.res h).cls⟩, W.tab, W.tun⟩
theorem scB_res : FnScope resN ["call"] resSc := ⟨rfl, rfl, rfl, by decide +kernel, rfl, by decide +kernel, by decide +kernel⟩
/-- a context in which expressions are evaluated -/
structure Cok (X : Cx) (N : List Str) (sc : Scope) (top : Bool) (E : XK) (k : Nat) (G : Nm) (gc : Gc) (cl : Cl) : Prop where
  hN : X.N = N
  nd : N.Nodup
  hs : X.env.scope = sc
  calm : X.calm = true
  room : Room (3 * k) X.A
  room2 : G.lm = true → Room (3 * k + 2) X.A
  lam : G.lm = true → ∃ c P, LamX.TabB X.base X.mg c P ∧ X.env.code = .ref c ∧ (P, X.env.qual ++ "<lambda>") ∈ tbl X.K
  tk : Takes X (fun cls d _ H => E cls d H)
  fn : top = true → ∀ x, X.fn x = true
  W : Wok X.prog X.w X.K X.mg X.base k G gc cl

section
variable (K : PySem.W.Frag) (mg : Str → Option Value) (G : Nm) (gc : Gc) (cl : Cl) (E : XK)
def tE (x : Ex) : TE := fun σ H Q => ∃ S e h, RelH K S H h ∧ RelE K S H e σ ∧ (evE gc cl x e h).All (Po K mg G S H h (qV K Q) E)
def tEs (x : Exs) : TA := fun σ H Q => ∃ S e h, RelH K S H h ∧ RelE K S H e σ ∧ (evEs gc cl x e h).All (Po K mg G S H h (qVs K Q) E)
def tT (x : Tx) : TT := fun σ H Q => ∃ S e h, RelH K S H h ∧ RelE K S H e σ ∧ (evT gc cl x e h).All (Po K mg G S H h (qB Q) E)
def tO (x : Ox) : TO := fun σ H Q => ∃ S e h, RelH K S H h ∧ RelE K S H e σ ∧ (evO gc cl x e h).All (Po K mg G S H h (qB Q) E)
end

section
variable {K : PySem.W.Frag} {mg : Str → Option Value} {G : Nm} {gc : Gc} {cl : Cl} {E : XK} {S : Sg} {H : Hp} {h : Hq} {e : En} {σ : L2.St} {β : Type} {q : Sg → Hp → β → Prop}
theorem bnd_all {α : Type} {m : M α} {f : α → M β} {P : Rx β → Prop} (hb : (bnd m f).All P) : m.All fun r => match r with
    | .ok a => (f a).All P
    | .ex c => P (.ex c) := by
  refine F.All.imp (fun r p => ?_) (F.All_bind.mp hb)
  cases r with
  | ok a => exact p
  | ex c => exact p
theorem stepE {x : Ex} {f : Vv → M β} {R : VK} (r : RelH K S H h) (re : RelE K S H e σ) (hb : (bnd (evE gc cl x e h) f).All (Po K mg G S H h q E))
    (k : ∀ a S1 H1 v, Ext S H S1 H1 → RelH K S1 H1 h → RelE K S1 H1 e σ → RW K S1 H1 a v → (f a).All (Po K mg G S1 H1 h q E) → R v H1) : tE K mg G gc cl E x σ H R := by
  refine ⟨S, e, h, r, re, F.All.imp (fun y p => ?_) (bnd_all hb)⟩
  cases y with
  | ok a => exact fun S' H' x' r' v rv => k a S' H' v x' r' (re.ext r x') rv (F.All.imp (fun z pz => pz.up x' z) p)
  | ex c => exact p
theorem stepEs {x : Exs} {f : List Vv → M β} {R : List V → Hp → Prop} (r : RelH K S H h) (re : RelE K S H e σ) (hb : (bnd (evEs gc cl x e h) f).All (Po K mg G S H h q E))
    (k : ∀ a S1 H1 v, Ext S H S1 H1 → RelH K S1 H1 h → RelE K S1 H1 e σ → RWs K S1 H1 a v → (f a).All (Po K mg G S1 H1 h q E) → R v H1) : tEs K mg G gc cl E x σ H R := by
  refine ⟨S, e, h, r, re, F.All.imp (fun y p => ?_) (bnd_all hb)⟩
  cases y with
  | ok a => exact fun S' H' x' r' v rv => k a S' H' v x' r' (re.ext r x') rv (F.All.imp (fun z pz => pz.up x' z) p)
  | ex c => exact p
theorem stepT {x : Tx} {f : Bool → M β} {R : Bool → Hp → Prop} (r : RelH K S H h) (re : RelE K S H e σ) (hb : (bnd (evT gc cl x e h) f).All (Po K mg G S H h q E))
    (k : ∀ a S1 H1, Ext S H S1 H1 → RelH K S1 H1 h → RelE K S1 H1 e σ → (f a).All (Po K mg G S1 H1 h q E) → R a H1) : tT K mg G gc cl E x σ H R := by
  refine ⟨S, e, h, r, re, F.All.imp (fun y p => ?_) (bnd_all hb)⟩
  cases y with
  | ok a => exact fun S' H' x' r' => k a S' H' x' r' (re.ext r x') (F.All.imp (fun z pz => pz.up x' z) p)
  | ex c => exact p
theorem stepO {x : Ox} {f : Option Int → M β} {R : Option Int → Hp → Prop} (r : RelH K S H h) (re : RelE K S H e σ) (hb : (bnd (evO gc cl x e h) f).All (Po K mg G S H h q E))
    (k : ∀ a S1 H1, Ext S H S1 H1 → RelH K S1 H1 h → RelE K S1 H1 e σ → (f a).All (Po K mg G S1 H1 h q E) → R a H1) : tO K mg G gc cl E x σ H R := by
  refine ⟨S, e, h, r, re, F.All.imp (fun y p => ?_) (bnd_all hb)⟩
  cases y with
  | ok a => exact fun S' H' x' r' => k a S' H' x' r' (re.ext r x') (F.All.imp (fun z pz => pz.up x' z) p)
  | ex c => exact p
theorem lfD_ok {o : Option D} {Q : VK} (hb : (lfD o).All (Po K mg G S H h (qV K Q) E)) : ∃ z, o = some z ∧ Dl K S H h z Q := by
  cases o with
  | none => exact hb.elim
  | some z => exact ⟨z, rfl, fun S' v H' x r rv => hb S' H' x r v rv⟩
theorem okD {z : D} {Q : VK} (hb : (ok (Vv.d z)).All (Po K mg G S H h (qV K Q) E)) : Dl K S H h z Q := fun S' v H' x r rv => hb S' H' x r v rv
theorem op2_ok {f : D → D → Option D} {a b : Vv} {v w : V} {Q : VK} (r : RelH K S H h) (ra : RW K S H a v) (rb : RW K S H b w) (hb : (op2 h f a b).All (Po K mg G S H h (qV K Q) E)) : rOp K f v w H Q := by
  unfold op2 at hb
  split at hb
  · rename_i p q e1 e2
    obtain ⟨z, e3, d⟩ := lfD_ok hb
    exact ⟨S, h, a, b, p, q, z, r, ra, rb, e1, e2, e3, d⟩
  · exact hb.elim
theorem dats_ok : ∀ {vs : List Vv} {ds : List D}, dats0 vs = some ds → ∀ {ws : List V}, RWs K S H vs ws → RVs K S H ds ws
  | [], ds, e, ws, q => by cases e; rw [show ws = [] from q]; exact .nil
  | .d x :: r, ds, e, ws, q => by
    simp only [dats0] at e
    obtain ⟨ds', e1, rfl⟩ := Option.map_eq_some_iff.mp e
    obtain ⟨v, t, rfl, q1, q2⟩ := q
    exact .cons q1 (dats_ok e1 q2)
  | .r n :: r, ds, e, ws, q => by simp [dats0] at e
theorem RWs.length : ∀ {vs : List Vv} {ws : List V}, RWs K S H vs ws → ws.length = vs.length
  | [], ws, q => by rw [show ws = [] from q]; rfl
  | v :: r, ws, q => by
    obtain ⟨v, t, rfl, q1, q2⟩ := q
    rw [List.length_cons, List.length_cons, RWs.length q2]
theorem RWs.append : ∀ {xs ys : List Vv} {vs ws : List V}, RWs K S H xs vs → RWs K S H ys ws → RWs K S H (xs ++ ys) (vs ++ ws)
  | [], ys, vs, ws, q, r => by rw [show vs = [] from q]; exact r
  | d :: ds, es, vs, ws, q, r => by
    obtain ⟨v, t, rfl, q1, q2⟩ := q
    exact ⟨v, t ++ ws, rfl, q1, RWs.append q2 r⟩

/-! ### a call: the callee's view and back -/
mutual
theorem RV.mono {S1 : Sg} (hf : ∀ a, S.fz a → S1.fz a) (hs : S1.sc = S.sc) (ht : ∀ t b, S.tw t b → S1.tw t b) : ∀ (d : D) (v : V), RV K S H d v → RV K S1 H d v
  | .non, v, q => by unfold RV at q ⊢; exact q
  | .bl b, v, q => by unfold RV at q ⊢; exact q
  | .int i, v, q => by unfold RV at q ⊢; exact q
  | .str s, v, q => by unfold RV at q ⊢; exact q
  | .tup ds, v, q => by
    unfold RV at q ⊢
    obtain ⟨a, vs, e, t, q⟩ := q
    exact ⟨a, vs, e, t, RVs.mono hf hs ht ds vs q⟩
  | .lst ds, v, q => by
    unfold RV at q ⊢
    obtain ⟨a, vs, e, t, f, q⟩ := q
    exact ⟨a, vs, e, t, hf a f, RVs.mono hf hs ht ds vs q⟩
  | .opq 0, v, q => by unfold RV at q ⊢; rw [hs]; exact q
  | .opq 1, v, q => by
    unfold RV at q ⊢
    obtain ⟨t, b, e, q⟩ := q
    exact ⟨t, b, ht _ _ e, q⟩
  | .opq (_ + 2), v, q => by unfold RV at q; exact q.elim
theorem RVs.mono {S1 : Sg} (hf : ∀ a, S.fz a → S1.fz a) (hs : S1.sc = S.sc) (ht : ∀ t b, S.tw t b → S1.tw t b) : ∀ (ds : List D) (vs : List V), RVs K S H ds vs → RVs K S1 H ds vs
  | [], vs, q => by unfold RVs at q ⊢; exact q
  | d :: ds, vs, q => by
    unfold RVs at q ⊢
    obtain ⟨v, t, e, q1, q2⟩ := q
    exact ⟨v, t, e, RV.mono hf hs ht d v q1, RVs.mono hf hs ht ds t q2⟩
end
/-- the callee: nothing is its own; what it is handed never changes -/
def Sg.callee (S : Sg) (c : Bool) : Sg := { as := [], fz := fun a => S.fz a ∨ (c = true ∧ a ∈ S.as), sc := S.sc, tw := S.tw }
theorem RelH.callee (r : RelH K S H h) (c : Bool) : RelH K (S.callee c) H [] where
  len := rfl
  nd := List.nodup_nil
  obj := fun n o e => by simp at e
  sep := fun a m => by cases m
  scr := by
    obtain ⟨ns, l, e⟩ := r.scr
    refine ⟨ns, l, ?_⟩
    rcases e with e | ⟨e, f⟩ | e
    · exact .inl e
    · exact .inr (.inl ⟨e, .inl f⟩)
    · exact .inr (.inr e)
  twn := r.twn
  fzs := fun a m => by
    rcases m with m | ⟨_, m⟩
    · exact r.fzs a m
    · obtain ⟨vs, q⟩ := r.inAs m
      exact ⟨_, q, nt_lst⟩
  tab := r.tab
theorem RWs.callee (r : RelH K S H h) {c : Bool} : ∀ {vs : List Vv} {ds : List D} {ws : List V}, (anyR vs = true → c = true) → RWs K S H vs ws → rdVs h vs = some ds → RVs K (S.callee c) H ds ws
  | [], ds, ws, _, q, e => by cases e; rw [show ws = [] from q]; exact .nil
  | x :: xs, ds, ws, hc, q, e => by
    obtain ⟨v, t, rfl, q1, q2⟩ := q
    simp only [rdVs] at e
    obtain ⟨d, e1, e2⟩ := Option.bind_eq_some_iff.mp e
    obtain ⟨ds', e3, rfl⟩ := Option.map_eq_some_iff.mp e2
    have mn : ∀ d v, RV K S H d v → RV K (S.callee c) H d v := RV.mono (fun a m => .inl m) rfl (fun _ _ m => m)
    have mns : ∀ d v, RVs K S H d v → RVs K (S.callee c) H d v := RVs.mono (fun a m => .inl m) rfl (fun _ _ m => m)
    have rest : RVs K (S.callee c) H ds' t := RWs.callee r (fun z => hc (by cases x <;> simp [anyR, z])) q2 e3
    refine .cons ?_ rest
    cases x with
    | d y =>
      have : y = d := Option.some.inj e1
      subst this
      exact mn _ _ q1
    | r n =>
      obtain ⟨a, ea, rfl⟩ := q1
      simp only [rdV] at e1
      split at e1
      · rename_i ys hx
        cases e1
        obtain ⟨b, eb, us, hv, q⟩ := r.obj n _ hx
        rw [ea] at eb; cases eb
        unfold RV
        exact ⟨a, us, rfl, hv, .inr ⟨hc (by simp [anyR]), List.mem_of_getElem? ea⟩, mns _ _ q⟩
      · cases e1
/-- back: the caller's view behind the call -/
def Sg.back (S S1 : Sg) (c : Bool) : Sg := { as := S.as, fz := fun a => S.fz a ∨ (c = false ∧ S1.fz a), sc := S.sc, tw := S1.tw }
theorem ext_back {c : Bool} {S1 : Sg} {H1 : Hp} (x : Ext (S.callee c) H S1 H1) : Ext S H (S.back S1 c) H1 where
  as := ⟨[], by simp [Sg.back]⟩
  kp := x.kp
  na := fun _ _ _ _ m => m
  fz := fun a m => .inl m
  nf := fun a o e n m => by
    rcases m with m | ⟨hc, m⟩
    · exact m
    · rcases x.nf a o e n m with m | ⟨hc', _⟩
      · exact m
      · rw [hc] at hc'; cases hc'
  fr := fun a o e n h1 h2 => x.fr a o e n (by simp [Sg.callee]) h2
  sc := rfl
  tw := x.tw
  nt := x.nt
theorem RelH.back (r : RelH K S H h) {c : Bool} {S1 : Sg} {H1 : Hp} (x : Ext (S.callee c) H S1 H1) (r1 : RelH K S1 H1 []) : RelH K (S.back S1 c) H1 h := by
  have xb := ext_back x
  have keepA : ∀ a ∈ S.as, H1 a = H a := fun a m => by
    obtain ⟨vs, q⟩ := r.inAs m
    rw [q]
    refine x.fr a _ q nt_lst (by simp [Sg.callee]) (fun z => ?_)
    obtain ⟨kvs, q2⟩ := r.notTw (show S.twA a from z)
    rw [q] at q2; cases q2
  refine ⟨r.len, r.nd, fun n o e => r.mapO xb keepA e, fun a m z => ?_, r.keepS xb r.scr, r1.twn, fun a m => ?_, r1.tab⟩
  · rcases z with z | ⟨hc, z⟩
    · exact r.sep a m z
    · obtain ⟨vs, q⟩ := r.inAs m
      rcases x.nf a _ q nt_lst z with z | ⟨hc', _⟩
      · exact r.sep a m z
      · rw [hc] at hc'; cases hc'
  · rcases m with m | ⟨_, m⟩
    · obtain ⟨o, q, n⟩ := r.fzs a m
      exact x.kp a o q n
    · exact r1.fzs a m
theorem RV.scal {S1 : Sg} {d : D} {v : V} (hd : isScal d = true) (q : RV K S H d v) : RV K S1 H d v := by
  cases d <;> first | (simp [isScal] at hd; done) | (unfold RV at q ⊢; exact q)
theorem RV.back {c : Bool} {S1 : Sg} {H1 : Hp} {d : D} {v : V} (x : Ext (S.callee c) H S1 H1) (hd : (!c || isScal d) = true) (q : RV K S1 H1 d v) : RV K (S.back S1 c) H1 d v := by
  cases c with
  | false => exact RV.mono (S := S1) (S1 := S.back S1 false) (fun a m => Or.inr ⟨rfl, m⟩) (show S.sc = S1.sc from x.sc.symm) (fun _ _ m => m) d v q
  | true => exact RV.scal (by simpa using hd) q
/-- the call's promise from what is wanted behind it -/
theorem spC_of {f : Nat} {vs : List Vv} {ds : List D} {ws : List V} {Q : VK} (r : RelH K S H h) (rv : RWs K S H vs ws) (e : rdVs h vs = some ds) (hl : ws.length = (G.fps f).length)
    (hb : (bnd (cl f ds) fun d => match !anyR vs || isScal d with
      | true => ok (Vv.d d)
      | false => .stk).All (Po K mg G S H h (qV K Q) E)) : spC K mg G cl f ws H Q E := by
  refine ⟨hl, S.callee (anyR vs), ds, rfl, r.callee _, RWs.callee r (fun z => z) rv e, F.All.imp (fun y p => ?_) (bnd_all hb)⟩
  cases y with
  | ok d =>
    intro S' v H' x has r1 q
    have p : (match !anyR vs || isScal d with | true => ok (Vv.d d) | false => .stk).All (Po K mg G S H h (qV K Q) E) := p
    split at p
    · rename_i hd
      exact okD p _ _ _ (ext_back x) (r.back x r1) (RV.back x hd q)
    · exact p.elim
  | ex c =>
    intro S' H' x has r1
    exact p _ _ (ext_back x) (r.back x r1)
end
end Bk
/-! Bkw: the answer-teller of a law's text. Printed by lres.py. -/
namespace Bk
open PySem PySem.Spec PyProof.Rows L2
section
variable {P : Program} {w : World} {K : PySem.W.Frag} {mg : Str → Option Value} {base : Heap} {G : Nm}
def resAll (K : PySem.W.Frag) : Bool := (List.range 16).all fun i => resB K i
theorem cls_of (h : ∀ p ∈ resC, mg p.2 = some (.ref (He.ga K p.2))) (hB : resAll K = true) (hn : ∀ c i s, exNm c = some (i, s) → ∃ nm : Str, resC[i]? = some (nm, G.enm c) ∧ nm = ⟨s.toArray⟩) :
    ∀ c i s, exNm c = some (i, s) → ∀ C, mg (G.enm c) = some (.ref C) → ∃ nm : Str, resC[i]? = some (nm, G.enm c) ∧ nm = ⟨s.toArray⟩ ∧ C = He.ga K (G.enm c) ∧ resB K i = true := fun c i s e C hC => by
  obtain ⟨nm, h1, h2⟩ := hn c i s e
  refine ⟨nm, h1, h2, ?_, ?_⟩
  · have := h _ (List.mem_of_getElem? h1)
    have := hC.symm.trans this
    cases this
    rfl
  · exact List.all_eq_true.mp hB i (List.mem_range.mpr (List.getElem?_eq_some_iff.mp h1).1)
theorem resW_of {f : Addr} {fd : FuncData} {params : Arguments} {p1 p2 p3 p4 p5 p6 p7 p8 p9 p10 p11 p12 p13 p14 p15 p16 p17 p18 p19 p20 p21 p22 p23 p24 p25 p26 p27 p28 p29 p30 p31 p32 p33 p34 p35 p36 p37 p38 p39 p40 p41 p42 p43 p44 p45 p46 p47 p48 p49 p50 p51 p52 p53 p54 p55 p56 p57 p58 p59 p60 p61 p62 p63 p64 p65 p66 p67 p68 p69 p70 p71 p72 p73 p74 p75 p76 p77 p78 p79 p80 p81 p82 p83 p84 p85 p86 p87 p88 p89 p90 p91 p92 p93 p94 p95 p96 p97 p98 p99 p100 p101 p102 p103 p104 p105 p106 p107 p108 p109 p110 p111 p112 p113 p114 p115 p116 p117 p118 p119 p120 p121 p122 p123 p124 p125 p126 p127 p128 p129 p130 p131 p132 p133 p134 p135 p136 p137 p138 p139 p140 p141 p142 p143 p144 p145 p146 p147 p148 p149 p150 p151 p152 p153 p154 p155 p156 p157 p158 p159 p160 p161 p162 p163 p164 p165 p166 p167 p168 p169 p170 : Pos} (F : FunD K "_law_result" "_law_result" params (lresB p1 p2 p3 p4 p5 p6 p7 p8 p9 p10 p11 p12 p13 p14 p15 p16 p17 p18 p19 p20 p21 p22 p23 p24 p25 p26 p27 p28 p29 p30 p31 p32 p33 p34 p35 p36 p37 p38 p39 p40 p41 p42 p43 p44 p45 p46 p47 p48 p49 p50 p51 p52 p53 p54 p55 p56 p57 p58 p59 p60 p61 p62 p63 p64 p65 p66 p67 p68 p69 p70 p71 p72 p73 p74 p75 p76 p77 p78 p79 p80 p81 p82 p83 p84 p85 p86 p87 p88 p89 p90 p91 p92 p93 p94 p95 p96 p97 p98 p99 p100 p101 p102 p103 p104 p105 p106 p107 p108 p109 p110 p111 p112 p113 p114 p115 p116 p117 p118 p119 p120 p121 p122 p123 p124 p125 p126 p127 p128 p129 p130 p131 p132 p133 p134 p135 p136 p137 p138 p139 p140 p141 p142 p143 p144 p145 p146 p147 p148 p149 p150 p151 p152 p153 p154 p155 p156 p157 p158 p159 p160 p161 p162 p163 p164 p165 p166 p167 p168 p169 p170) resSc [] [] f fd) (l1 : (p40.endLine == p52.line) = true) (l2 : (p55.endLine == p67.line) = true) (l3 : (p70.endLine == p82.line) = true) (l4 : (p85.endLine == p97.line) = true) (l5 : (p100.endLine == p112.line) = true) (l6 : (p115.endLine == p127.line) = true) (l7 : (p130.endLine == p142.line) = true) (l8 : (p144.line == p151.line) = true)
    (hmg : mg "_law_result" = some (.ref f)) (hb : L2.Binds K fd ["call"] []) (hC : ∀ p ∈ resC, mg p.2 = some (.ref (He.ga K p.2))) (hE : mg "CopyError" = some (.ref (He.ga K "CopyError"))) (hm : mg "isinstance" = none) (hlen : mg "len" = none) (hve : mg "ValueError" = none)
    (hB : resAll K = true) (hn : ∀ c i s, exNm c = some (i, s) → ∃ nm : Str, resC[i]? = some (nm, G.enm c) ∧ nm = ⟨s.toArray⟩) : ResW P w K mg base G := by
  have kp := F.kp
  obtain ⟨oc, od, dV, kV, doc, pm, an, cdv, ct, osl, rfl, lk, hcd, hD, hK⟩ := F.ex
  refine ⟨⟨f, oc, od, params, lresB p1 p2 p3 p4 p5 p6 p7 p8 p9 p10 p11 p12 p13 p14 p15 p16 p17 p18 p19 p20 p21 p22 p23 p24 p25 p26 p27 p28 p29 p30 p31 p32 p33 p34 p35 p36 p37 p38 p39 p40 p41 p42 p43 p44 p45 p46 p47 p48 p49 p50 p51 p52 p53 p54 p55 p56 p57 p58 p59 p60 p61 p62 p63 p64 p65 p66 p67 p68 p69 p70 p71 p72 p73 p74 p75 p76 p77 p78 p79 p80 p81 p82 p83 p84 p85 p86 p87 p88 p89 p90 p91 p92 p93 p94 p95 p96 p97 p98 p99 p100 p101 p102 p103 p104 p105 p106 p107 p108 p109 p110 p111 p112 p113 p114 p115 p116 p117 p118 p119 p120 p121 p122 p123 p124 p125 p126 p127 p128 p129 p130 p131 p132 p133 p134 p135 p136 p137 p138 p139 p140 p141 p142 p143 p144 p145 p146 p147 p148 p149 p150 p151 p152 p153 p154 p155 p156 p157 p158 p159 p160 p161 p162 p163 p164 p165 p166 p167 p168 p169 p170, dV, kV, doc, pm, an, cdv, ct, osl, hmg, kp, lk, hcd, hb, fun X e1 e2 e3 e4 e5 hu q => ?_⟩, cls_of hC hB hn⟩
  rw [← e3]
  rw [← e3, ← e4] at hC hE
  rw [← e4] at hm hlen hve
  exact res_gives l1 l2 l3 l4 l5 l6 l7 l8 hC hE hm hlen hve hu
end
end Bk
/-! BkG: the soundness of expressions, the induction. -/
namespace Bk
open PySem PySem.Spec PyProof.Rows L2
theorem PE.imp {X : Cx} {e : PySem.Expr} {t t' : TE} (p : PE X e t) (h : ∀ σ H Q, t' σ H Q → t σ H Q) : PE X e t' := ⟨fun pins s σ H Q I q => p.run pins s σ H Q I (h σ H Q q)⟩
theorem PT.imp {X : Cx} {e : PySem.Expr} {t t' : TT} (p : PT X e t) (h : ∀ σ H Q, t' σ H Q → t σ H Q) : PT X e t' := ⟨fun pins s σ H Q I q => p.run pins s σ H Q I (h σ H Q q)⟩
theorem PW.imp {X : Cx} {e : PySem.Expr} {t t' : TT} (p : PW X e t) (h : ∀ σ H Q, t' σ H Q → t σ H Q) : PW X e t' := ⟨fun wh pins s σ H Q I q => p.run wh pins s σ H Q I (h σ H Q q)⟩
theorem PA.imp {X : Cx} {e : List PySem.Expr} {t t' : TA} (p : PA X e t) (h : ∀ σ H Q, t' σ H Q → t σ H Q) : PA X e t' := ⟨fun pos pins s σ H Q I q => p.run pos pins s σ H Q I (h σ H Q q)⟩
theorem PK.imp {X : Cx} {e : List Keyword} {t t' : TA} (p : PK X e t) (h : ∀ σ H Q, t' σ H Q → t σ H Q) : PK X e t' := ⟨fun pos pins s σ H Q I q => p.run pos pins s σ H Q I (h σ H Q q)⟩
theorem PO.imp {X : Cx} {e : Option PySem.Expr} {t t' : TO} (p : PO X e t) (h : ∀ σ H Q, t' σ H Q → t σ H Q) : PO X e t' := ⟨fun pins s σ H Q I q => p.run pins s σ H Q I (h σ H Q q)⟩
theorem PI.imp {X : Cx} {tg e : PySem.Expr} {t t' : TI} (p : PI X tg e t) (h : ∀ σ H Q, t' σ H Q → t σ H Q) : PI X tg e t' := ⟨fun pins s σ H Q I q => p.run pins s σ H Q I (h σ H Q q)⟩
theorem PG.imp {X : Cx} {e : PySem.Expr} {t t' : TG} (p : PG X e t) (h : ∀ v σ H Q, t' v σ H Q → t v σ H Q) : PG X e t' := ⟨fun pins s σ H v u Q I r q => p.run pins s σ H v u Q I r (h v σ H Q q)⟩
theorem PGs.imp {X : Cx} {e : List PySem.Expr} {t t' : TGs} (p : PGs X e t) (h : ∀ v σ H Q, t' v σ H Q → t v σ H Q) : PGs X e t' := ⟨fun pins s σ H v u Q I r q => p.run pins s σ H v u Q I r (h v σ H Q q)⟩
theorem PTs.imp {X : Cx} {e : List PySem.Expr} {t t' : TT} (p : PTs X e t) (h : ∀ σ H Q, t' σ H Q → t σ H Q) : PTs X e t' := ⟨fun pins s σ H Q I q => p.run pins s σ H Q I (h σ H Q q)⟩

section
variable {X : Cx} {N : List Str} {sc : Scope} {top : Bool} {E : XK} {k : Nat} {G : Nm} {gc : Gc} {cl : Cl}
theorem Cok.gl (C : Cok X N sc top E k G gc cl) {x : Str} (h : glb sc x = true) : Gl X x := by
  show X.env.scope.names.lookup x = some .globalImplicit
  rw [C.hs]; exact glb_ok h
theorem Cok.free (C : Cok X N sc top E k G gc cl) {x : Str} (h : x ∈ bltN) : X.mg x = none := C.W.blt x h
/-- within a comprehension -/
theorem Cok.blk (C : Cok X N sc top E k G gc cl) (s : Shared) (H : Hp) (scope : Scope) (cl' : List (Str × Addr)) (Cc : Addr) (fp : List Addr) :
    Cok (X.blk s H scope (compEnvC scope cl' Cc X.env) fp) N (relS scope sc) false (fun _ _ _ => False) k G gc cl :=
  ⟨C.hN, C.nd, by rw [← C.hs]; rfl, C.calm, C.room, C.room2, C.lam, takes0, (fun z => nomatch z), C.W⟩
theorem opOf (C : Cok X N sc top E k G gc cl) {o : Bop} {op : Operator} (h : mBop o op = true) : OpR X (binaryOp op) (rOp X.K (bopD o)) := by
  cases o <;> cases op <;> first
    | (exact absurd h (by decide))
    | exact opR_add
    | exact opR_sub
    | exact opR_mul
    | exact opR_fdiv
    | exact opR_mod
    | exact opR_pow
theorem copOf (C : Cok X N sc top E k G gc cl) {o : Cop} {op : CmpOp} (h : mCop o op = true) : OpR X (compareOp op) (rCmp X.K (cmpD o)) := by
  have hu := C.room.units
  have hu2 : X.A.units + 65 < cLine := by have := C.room.un; omega
  cases o <;> cases op <;> first
    | (exact absurd h (by decide))
    | exact opR_eq hu
    | exact opR_ne hu
    | exact opR_lt
    | exact opR_le
    | exact opR_gt
    | exact opR_ge
    | exact opR_is
    | exact opR_isn
    | exact opR_in hu2
    | exact opR_nin hu2
/-- targets: the slots behind differ at the target's places alone -/
def Diff (is : List Nat) (σ σ' : L2.St) : Prop := ∀ vs : List Nat, (∀ i ∈ is, i ∈ vs) → wipe σ' vs = wipe σ vs
def gT (K : PySem.W.Frag) (t : Tg) : TG := fun v σ H Q => ∃ S e h d e', RelH K S H h ∧ RelE K S H e σ ∧ RV K S H d v ∧ asg t d e = some e' ∧ ∀ σ', RelE K S H e' σ' → Diff (tgS t) σ σ' → Q σ' H
def gTs (K : PySem.W.Frag) (ts : List Tg) : TGs := fun vs σ H Q => ∃ S e h ds e', RelH K S H h ∧ RelE K S H e σ ∧ RVs K S H ds vs ∧ asgs ts ds e = some e' ∧ ∀ σ', RelE K S H e' σ' → Diff (tgSs ts) σ σ' → Q σ' H
theorem wipe_get (σ : L2.St) : ∀ (vs : List Nat) (j : Nat), (wipe σ vs)[j]? = if j ∈ vs then (σ[j]?).map fun _ => none else σ[j]?
  | [], j => by simp [wipe]
  | v :: vs, j => by
    unfold wipe
    have ih := wipe_get σ vs j
    by_cases hj : v = j
    · subst hj
      rw [List.getElem?_set]
      simp only [if_true, wipe_length]
      by_cases hl : v < σ.length
      · rw [if_pos hl, if_pos List.mem_cons_self, List.getElem?_eq_getElem hl]; rfl
      · rw [if_neg hl, if_pos List.mem_cons_self, List.getElem?_eq_none (by omega)]; rfl
    · rw [List.getElem?_set_ne hj, ih]
      have e : (j ∈ v :: vs) ↔ j ∈ vs := by
        rw [List.mem_cons]
        exact ⟨fun z => z.resolve_left (Ne.symm hj), .inr⟩
      simp only [e]
theorem diff_set {i : Nat} {σ : L2.St} {v : V} : Diff [i] σ (σ.set i (some v)) := fun vs hv => by
  refine List.ext_getElem? fun j => ?_
  rw [wipe_get, wipe_get]
  by_cases hj : j ∈ vs
  · rw [if_pos hj, if_pos hj, List.getElem?_set]
    by_cases e : i = j
    · subst e
      by_cases hl : i < σ.length
      · simp [hl]
      · simp [hl]
    · simp [e]
  · rw [if_neg hj, if_neg hj, List.getElem?_set_ne (show i ≠ j from fun e => hj (by rw [← e]; exact hv i List.mem_cons_self))]
theorem loc1_ok {sc : Scope} {top : Bool} {x : Str} (h : loc1 sc top x = true) : sc.names.lookup x = some .local ∨ (top = true ∧ sc.names.lookup x = some .cell) := by
  unfold loc1 at h
  split at h
  · exact .inl ‹_›
  · exact .inr ⟨h, ‹_›⟩
  · cases h
theorem RelE.set {K : PySem.W.Frag} {S : Sg} {H : Hp} {e : En} {σ : L2.St} {i : Nat} {x : Vv} {v : V} (q : RelE K S H e σ) (r : RW K S H x v) : RelE K S H (e.set i (some x)) (σ.set i (some v)) := by
  refine ⟨by rw [List.length_set, List.length_set]; exact q.len, fun j y ej => ?_⟩
  by_cases hj : j = i
  · subst hj
    have hl : j < e.length := by
      have := (List.getElem?_eq_some_iff.mp ej).1
      simpa using this
    rw [List.getElem?_set_self hl] at ej
    cases ej
    exact ⟨v, List.getElem?_set_self (by rw [← q.len]; exact hl), r⟩
  · rw [List.getElem?_set_ne (Ne.symm hj)] at ej
    obtain ⟨w, ew, rw'⟩ := q.sl j y ej
    exact ⟨w, by rw [List.getElem?_set_ne (Ne.symm hj)]; exact ew, rw'⟩
mutual
theorem sTg (C : Cok X N sc top E k G gc cl) : ∀ (t : Tg) (e : PySem.Expr), mTg N sc top t e = true → PG X e (gT X.K t)
  | .nm i, e, h => by
    simp only [mTg] at h
    split at h
    · rename_i x pp
      rw [Bool.and_eq_true] at h
      have hi : X.N[i]? = some x := by rw [C.hN]; exact of_decide_eq_true h.1
      have hN : X.N.Nodup := by rw [C.hN]; exact C.nd
      refine PG.imp (pg_name (i := i) hN hi ?_ ?_) fun v σ H Q q => ?_
      · rcases loc1_ok h.2 with z | ⟨_, z⟩
        · exact .inl (by rw [C.hs]; exact z)
        · exact .inr (by rw [C.hs]; exact z)
      · rcases loc1_ok h.2 with z | ⟨z, _⟩
        · exact .inr (by rw [C.hs]; exact z)
        · exact .inl (C.fn z _)
      · obtain ⟨S, e, h, d, e', r, re, rd, ea, q⟩ := q
        unfold asg at ea
        split at ea
        · cases ea
          exact q _ (re.set (x := .d d) rd) (by simp only [tgS]; exact diff_set)
        · cases ea
    · cases h
  | .tp ts, e, h => by
    simp only [mTg] at h
    split at h
    · rename_i es kk pp
      obtain ⟨pgs, hn, hst⟩ := sTgs C ts es h
      refine PG.imp (pg_tup (n := ts.length) C.calm pgs hn hst) fun v σ H Q q => ?_
      obtain ⟨S, e, h, d, e', r, re, rd, ea, q⟩ := q
      cases d with
      | tup ds =>
        unfold RV at rd
        obtain ⟨a, vs, rfl, t, rvs⟩ := rd
        simp only [asg] at ea
        refine ⟨a, vs, rfl, t, ?_, S, e, h, ds, e', r, re, rvs, ea, fun σ' re' df => q σ' re' (by simp only [tgS]; exact df)⟩
        rw [rvs.length]
        exact asgs_len ts ds e e' ea
      | _ => simp [asg] at ea
    · cases h
theorem sTgs (C : Cok X N sc top E k G gc cl) : ∀ (ts : List Tg) (es : List PySem.Expr), mTgs N sc top ts es = true → PGs X es (gTs X.K ts) ∧ (assignEach es X.env).length = ts.length ∧ (assignEach es X.env).findIdx? (·.1) = none
  | [], [], _ => by
    refine ⟨PGs.imp pgs_nil fun v σ H Q q => ?_, rfl, rfl⟩
    obtain ⟨S, e, h, ds, e', r, re, rd, ea, q⟩ := q
    cases ds with
    | nil =>
      simp only [asgs] at ea
      cases ea
      exact ⟨rd.nil_iff, q _ re (fun _ _ => rfl)⟩
    | cons => simp [asgs] at ea
  | t :: ts, e :: es, h => by
    unfold mTgs at h
    rw [Bool.and_eq_true, Bool.and_eq_true] at h
    obtain ⟨⟨h1, h2⟩, h3⟩ := h
    obtain ⟨pgs, hn, hst⟩ := sTgs C ts es h3
    have ec : assignEach (e :: es) X.env = (false, assign e X.env) :: assignEach es X.env := by
      cases e <;> first | rfl | (simp [notSt] at h1)
    refine ⟨PGs.imp (pgs_cons (sTg C t e h2) pgs (by rw [ec]; rfl)) fun v σ H Q q => ?_, by rw [ec, List.length_cons, List.length_cons, hn], by rw [ec, List.findIdx?_cons]; simp only [Bool.false_eq_true, if_false, hst]; rfl⟩
    obtain ⟨S, e, h, ds, e', r, re, rd, ea, q⟩ := q
    cases ds with
    | nil => simp [asgs] at ea
    | cons d ds =>
      obtain ⟨v', r', rfl, q1, q2⟩ := rd.of_cons
      simp only [asgs] at ea
      obtain ⟨e1, ea1, ea2⟩ := Option.bind_eq_some_iff.mp ea
      exact ⟨v', r', rfl, S, e, h, d, e1, r, re, q1, ea1, fun σ1 re1 df1 => ⟨S, e1, h, ds, e', r, re1, q2, ea2, fun σ2 re2 df2 => q σ2 re2 (fun vs hv => by
        simp only [tgSs] at hv
        rw [df2 vs (fun i hi => hv i (List.mem_append_right _ hi)), df1 vs (fun i hi => hv i (List.mem_append_left _ hi))])⟩⟩
  | [], _ :: _, h => by simp [mTgs] at h
  | _ :: _, [], h => by simp [mTgs] at h
theorem asgs_len : ∀ (ts : List Tg) (ds : List D) (e e' : En), asgs ts ds e = some e' → ds.length = ts.length
  | [], [], _, _, _ => rfl
  | [], _ :: _, _, _, h => by simp [asgs] at h
  | _ :: _, [], _, _, h => by simp [asgs] at h
  | t :: ts, d :: ds, e, e', h => by
    simp only [asgs] at h
    obtain ⟨e1, _, h2⟩ := Option.bind_eq_some_iff.mp h
    rw [List.length_cons, List.length_cons, asgs_len ts ds e1 e' h2]
end
end
end Bk
/-! BkH: what is walked; comprehensions. -/
namespace Bk
open PySem PySem.Spec PyProof.Rows L2

/-- a walk over items, while the def's own lists are so -/
structure ItOk (K : PySem.W.Frag) (S : Sg) (H : Hp) (hq : Hq → Prop) (J : It) (xs : List D) : Prop where
  go : ∀ i S1 H1 h1, hq h1 → Ext S H S1 H1 → RelH K S1 H1 h1 → i < xs.length → J.go i H1
  stop : ∀ S1 H1 h1, hq h1 → Ext S H S1 H1 → RelH K S1 H1 h1 → J.stop xs.length H1
  yld : ∀ i S1 H1 h1 x H', hq h1 → Ext S H S1 H1 → RelH K S1 H1 h1 → i < xs.length → J.yld i H1 x H' → Ext S1 H1 S1 H' ∧ RelH K S1 H' h1 ∧ ∃ d, xs[i]? = some d ∧ RV K S1 H' d x
/-- a walk that changes nothing -/
theorem yld_same {K : PySem.W.Frag} {S1 : Sg} {H1 H' : Hp} {h1 : Hq} {xs : List D} {i : Nat} {x : V} (r1 : RelH K S1 H1 h1) (q : H' = H1 ∧ ∃ d, xs[i]? = some d ∧ RV K S1 H1 d x) : Ext S1 H1 S1 H' ∧ RelH K S1 H' h1 ∧ ∃ d, xs[i]? = some d ∧ RV K S1 H' d x := by
  obtain ⟨rfl, q⟩ := q
  exact ⟨Ext.refl _ _, r1, q⟩
def hqI (it : Ix) (h : Hq) : Hq → Prop := fun h' => isOwn it = true → h' = h
section
variable {K : PySem.W.Frag} {S : Sg} {H : Hp} {h : Hq}
theorem it_tup {a : Addr} {vs : List V} {ds : List D} {hq : Hq → Prop} (r : RelH K S H h) (t : SqT K H a vs) (q : RVs K S H ds vs) : ItOk K S H hq (Itt K a) ds where
  go := fun i S1 H1 h1 _ x r1 hi => ⟨vs, vs[i]'(by rw [q.length]; exact hi), r.keepT x t, List.getElem?_eq_getElem _⟩
  stop := fun S1 H1 h1 _ x r1 => ⟨vs, r.keepT x t, by rw [q.length]; exact Nat.le_refl _⟩
  yld := fun i S1 H1 h1 v H' _ x r1 hi y => by
    obtain ⟨e, y⟩ := y
    have e1 := y vs (r.keepT x t)
    obtain ⟨d, e2, rv⟩ := (RVs.ext r x ds vs q).get' e1
    exact yld_same r1 ⟨e, d, e2, rv⟩
theorem it_lst {a : Addr} {vs : List V} {ds : List D} {hq : Hq → Prop} (r : RelH K S H h) (t : H a = some (.lst vs)) (f : S.fz a) (q : RVs K S H ds vs) : ItOk K S H hq (Itl K a) ds where
  go := fun i S1 H1 h1 _ x r1 hi => ⟨vs, vs[i]'(by rw [q.length]; exact hi), SqL.of (r.keepL x t f), List.getElem?_eq_getElem _⟩
  stop := fun S1 H1 h1 _ x r1 => ⟨vs, SqL.of (r.keepL x t f), by rw [q.length]; exact Nat.le_refl _⟩
  yld := fun i S1 H1 h1 v H' _ x r1 hi y => by
    obtain ⟨e, y⟩ := y
    have e1 := y vs (SqL.of (r.keepL x t f))
    obtain ⟨d, e2, rv⟩ := (RVs.ext r x ds vs q).get' e1
    exact yld_same r1 ⟨e, d, e2, rv⟩
theorem it_own {n : Nat} {a : Addr} {ds : List D} (e : S.as[n]? = some a) (eh : h[n]? = some (.lst ds)) : ItOk K S H (fun h' => h' = h) (Itl K a) ds := by
  have at_ : ∀ S1 H1, Ext S H S1 H1 → RelH K S1 H1 h → ∃ vs, H1 a = some (.lst vs) ∧ RVs K S1 H1 ds vs := fun S1 H1 x r1 => by
    obtain ⟨b, eb, vs, hv, q⟩ := r1.obj n _ eh
    obtain ⟨ns, e2⟩ := x.as
    rw [e2, List.getElem?_append_left (List.getElem?_eq_some_iff.mp e).1, e] at eb
    cases eb
    exact ⟨vs, hv, q⟩
  refine ⟨fun i S1 H1 h1 eq x r1 hi => ?_, fun S1 H1 h1 eq x r1 => ?_, fun i S1 H1 h1 v H' eq x r1 hi y => ?_⟩
  · subst eq
    obtain ⟨vs, hv, q⟩ := at_ S1 H1 x r1
    exact ⟨vs, vs[i]'(by rw [q.length]; exact hi), SqL.of hv, List.getElem?_eq_getElem _⟩
  · subst eq
    obtain ⟨vs, hv, q⟩ := at_ S1 H1 x r1
    exact ⟨vs, SqL.of hv, by rw [q.length]; exact Nat.le_refl _⟩
  · subst eq
    obtain ⟨vs, hv, q⟩ := at_ S1 H1 x r1
    obtain ⟨e1, y⟩ := y
    obtain ⟨d, e2, rv⟩ := q.get' (y vs (SqL.of hv))
    exact yld_same r1 ⟨e1, d, e2, rv⟩
theorem it_str {s : List Nat} {hq : Hq → Prop} : ItOk K S H hq (Its ⟨s.toArray⟩) (s.map fun c => D.str [c]) where
  go := fun i S1 H1 h1 _ x r1 hi => by
    show i < s.toArray.size
    simpa using hi
  stop := fun S1 H1 h1 _ x r1 => by
    show s.toArray.size ≤ _
    simp
  yld := fun i S1 H1 h1 v H' _ x r1 hi y => by
    obtain ⟨e, c, ec, rfl⟩ := y
    refine yld_same r1 ⟨e, .str [c], ?_, by unfold RV; rfl⟩
    rw [List.getElem?_map]
    have : s[i]? = some c := by simpa using ec
    rw [this]; rfl
theorem it_rng {lo : Int} {n : Nat} {hq : Hq → Prop} : ItOk K S H hq (Itr lo n) ((List.range n).map fun (i : Nat) => D.int (lo + (i : Int))) where
  go := fun i S1 H1 h1 _ x r1 hi => by
    show i < n
    simpa using hi
  stop := fun S1 H1 h1 _ x r1 => by
    show n ≤ _
    simp
  yld := fun i S1 H1 h1 v H' _ x r1 hi y => by
    obtain ⟨e, rfl⟩ := y
    have hi' : i < n := by simpa using hi
    refine yld_same r1 ⟨e, .int (lo + i), ?_, by unfold RV; rfl⟩
    rw [List.getElem?_map, List.getElem?_range hi']; rfl
theorem it_rngN {lo : Int} {n : Nat} {hq : Hq → Prop} : ItOk K S H hq (Itc lo (-1) n) ((List.range n).map fun (i : Nat) => D.int (lo - (i : Int))) where
  go := fun i S1 H1 h1 _ x r1 hi => by
    show i < n
    simpa using hi
  stop := fun S1 H1 h1 _ x r1 => by
    show n ≤ _
    simp
  yld := fun i S1 H1 h1 v H' _ x r1 hi y => by
    obtain ⟨e, rfl⟩ := y
    have hi' : i < n := by simpa using hi
    refine yld_same r1 ⟨e, .int (lo - i), ?_, by unfold RV; congr 1; omega⟩
    rw [List.getElem?_map, List.getElem?_range hi']; rfl

theorem enumL_len : ∀ (ds : List D) (n : Nat), (enumL n ds).length = ds.length
  | [], _ => rfl
  | d :: ds, n => by rw [enumL, List.length_cons, List.length_cons, enumL_len ds]
theorem enumL_get : ∀ (ds : List D) (n i : Nat), (enumL n ds)[i]? = ds[i]?.map fun d => D.tup [.int ((n + i : Nat) : Int), d]
  | [], n, i => by simp [enumL]
  | d :: ds, n, 0 => rfl
  | d :: ds, n, i + 1 => by
    rw [enumL, List.getElem?_cons_succ, List.getElem?_cons_succ, enumL_get ds (n + 1) i, show n + 1 + i = n + (i + 1) by omega]
theorem it_enm {a : Addr} {vs : List V} {ds : List D} {hq : Hq → Prop} (r : RelH K S H h) (t : SqT K H a vs) (q : RVs K S H ds vs) : ItOk K S H hq (Iet K a) (enumL 0 ds) where
  go := fun i S1 H1 h1 _ x r1 hi => ⟨vs, vs[i]'(by rw [q.length]; rw [enumL_len] at hi; exact hi), r.keepT x t, List.getElem?_eq_getElem _⟩
  stop := fun S1 H1 h1 _ x r1 => ⟨vs, r.keepT x t, by rw [q.length, enumL_len]⟩
  yld := fun i S1 H1 h1 v H' _ x r1 hi y => by
    obtain ⟨T, u, rfl, hT, rfl, y⟩ := y
    have e1 := y vs (r.keepT x t)
    obtain ⟨d, e2, rv⟩ := (RVs.ext r x ds vs q).get' e1
    refine ⟨ext_new hT, r1.new hT, .tup [.int ((0 + i : Nat) : Int), d], by rw [enumL_get, e2]; rfl, ?_⟩
    have rv' : RV K S1 (upd H1 T (.tup [.int (i : Nat), u])) d u := RV.ext r1 (ext_new hT) d u rv
    unfold RV
    refine ⟨T, [.int (i : Nat), u], rfl, .inl (.inl upd_same), .cons (by unfold RV; rw [Nat.zero_add]) (.cons rv' .nil)⟩

/-! ### the list that a comprehension makes -/
theorem ext_oth {S1 : Sg} {H1 : Hp} {D0 : Addr} {o : HO} (x : Ext S H S1 H1) (n : H D0 = none) : Ext S H S1 (upd H1 D0 o) where
  as := x.as
  kp := fun a o' e n' => by
    obtain ⟨o2, e2, n2⟩ := x.kp a o' e n'
    exact ⟨o2, by rw [upd_ne (ne_of_none e n)]; exact e2, n2⟩
  na := x.na
  fz := x.fz
  nf := x.nf
  fr := fun a o' e n' h1 h2 => by rw [upd_ne (ne_of_none e n)]; exact x.fr a o' e n' h1 h2
  sc := x.sc
  tw := x.tw
  nt := x.nt
/-- a list that no one knows changes -/
structure Oth (S : Sg) (H : Hp) (D0 : Addr) : Prop where
  lst : ∃ ws, H D0 = some (.lst ws)
  na : D0 ∉ S.as
  nf : ¬ S.fz D0
mutual
theorem RV.oth {D0 : Addr} {o : HO} (z : Oth S H D0) : ∀ (d : D) (v : V), RV K S H d v → RV K S (upd H D0 o) d v
  | .non, v, q => by unfold RV at q ⊢; exact q
  | .bl b, v, q => by unfold RV at q ⊢; exact q
  | .int i, v, q => by unfold RV at q ⊢; exact q
  | .str s, v, q => by unfold RV at q ⊢; exact q
  | .tup ds, v, q => by
    unfold RV at q ⊢
    obtain ⟨a, vs, e, t, q⟩ := q
    refine ⟨a, vs, e, ?_, RVs.oth z ds vs q⟩
    obtain ⟨ws, zl⟩ := z.lst
    rcases t with (t | ⟨o', t⟩) | t
    · exact .inl (.inl (by rw [upd_ne (ne_of t zl (fun k => nomatch k))]; exact t))
    · exact .inl (.inr ⟨o', by rw [upd_ne (ne_of t zl (fun k => nomatch k))]; exact t⟩)
    · exact .inr t
  | .lst ds, v, q => by
    unfold RV at q ⊢
    obtain ⟨a, vs, e, t, f, q⟩ := q
    exact ⟨a, vs, e, by rw [upd_ne (show a ≠ D0 from fun k => z.nf (by rw [← k]; exact f))]; exact t, f, RVs.oth z ds vs q⟩
  | .opq 0, v, q => by unfold RV at q ⊢; exact q
  | .opq 1, v, q => by unfold RV at q ⊢; exact q
  | .opq (_ + 2), v, q => by unfold RV at q; exact q.elim
theorem RVs.oth {D0 : Addr} {o : HO} (z : Oth S H D0) : ∀ (ds : List D) (vs : List V), RVs K S H ds vs → RVs K S (upd H D0 o) ds vs
  | [], vs, q => by unfold RVs at q ⊢; exact q
  | d :: ds, vs, q => by
    unfold RVs at q ⊢
    obtain ⟨v, t, e, q1, q2⟩ := q
    exact ⟨v, t, e, RV.oth z d v q1, RVs.oth z ds t q2⟩
end
theorem RelH.oth (r : RelH K S H h) {D0 : Addr} {o : HO} (z : Oth S H D0) : RelH K S (upd H D0 o) h := by
  obtain ⟨ws, zl⟩ := z.lst
  refine ⟨r.len, r.nd, fun n ob e => ?_, r.sep, ?_, fun t b e => ?_, fun a m => ?_, tabs_write r.tab zl nt_lst (fun _ z => nomatch z)⟩
  · obtain ⟨a, e1, q⟩ := r.obj n ob e
    refine ⟨a, e1, ?_⟩
    cases ob with
    | lst ds =>
      obtain ⟨vs, q1, q2⟩ := q
      exact ⟨vs, by rw [upd_ne (show a ≠ D0 from fun k => z.na (by rw [← k]; exact List.mem_of_getElem? e1))]; exact q1, RVs.oth z ds vs q2⟩
  · obtain ⟨ns, l, e⟩ := r.scr
    refine ⟨ns, l, ?_⟩
    rcases e with ⟨o', e⟩ | ⟨e, f⟩ | e
    · exact .inl ⟨o', by rw [upd_ne (ne_of e zl (fun k => nomatch k))]; exact e⟩
    · exact .inr (.inl ⟨by rw [upd_ne (fun k => z.nf (by rw [← k]; exact f))]; exact e, f⟩)
    · exact .inr (.inr e)
  · obtain ⟨c, rs, h1, h2, h3⟩ := r.twn t b e
    exact ⟨c, rs, by rw [upd_ne (ne_of h1 zl (fun k => nomatch k))]; exact h1, by rw [upd_ne (ne_of h2 zl (fun k => nomatch k))]; exact h2, h3⟩
  · obtain ⟨o', q, n⟩ := r.fzs a m
    exact ⟨o', by rw [upd_ne (show a ≠ D0 from fun k => z.nf (by rw [← k]; exact m))]; exact q, n⟩
theorem RelH.frzAt (r : RelH K S H h) {D0 : Addr} (z : Oth S H D0) : RelH K (S.frz D0) H h := by
  refine ⟨r.len, r.nd, fun n ob e => ?_, fun a m k => ?_, (by
    obtain ⟨ns, l, e⟩ := r.scr
    refine ⟨ns, l, ?_⟩
    rcases e with e | ⟨e, f⟩ | e
    · exact .inl e
    · exact .inr (.inl ⟨e, .inl f⟩)
    · exact .inr (.inr e)), r.twn, fun a m => ?_, r.tab⟩
  · obtain ⟨a, e1, q⟩ := r.obj n ob e
    refine ⟨a, e1, ?_⟩
    cases ob with
    | lst ds =>
      obtain ⟨vs, q1, q2⟩ := q
      exact ⟨vs, q1, RVs.mono (S1 := S.frz D0) (fun a m => Or.inl m) rfl (fun _ _ m => m) ds vs q2⟩
  · rcases k with k | rfl
    · exact r.sep a m k
    · exact z.na m
  · rcases m with m | rfl
    · exact r.fzs a m
    · obtain ⟨ws, zl⟩ := z.lst
      exact ⟨_, zl, nt_lst⟩
theorem ext_frzAt {S1 : Sg} {H1 : Hp} {D0 : Addr} (x : Ext S H S1 H1) (n : H D0 = none) : Ext S H (S1.frz D0) H1 where
  as := x.as
  kp := x.kp
  na := x.na
  fz := fun a m => .inl (x.fz a m)
  nf := fun a o e n' m => by
    rcases m with m | rfl
    · exact x.nf a o e n' m
    · rw [n] at e; cases e
  fr := x.fr
  sc := x.sc
  tw := x.tw
  nt := x.nt
theorem Oth.ext {S1 : Sg} {H1 : Hp} {D0 : Addr} {ws : List V} (z : Oth S H D0) (e : H D0 = some (.lst ws)) (r : RelH K S H h) (x : Ext S H S1 H1) : Oth S1 H1 D0 ∧ H1 D0 = some (.lst ws) := by
  have e1 : H1 D0 = some (.lst ws) := x.fr D0 _ e nt_lst z.na (fun k => by
    obtain ⟨kvs, q⟩ := r.notTw k
    rw [e] at q; cases q)
  exact ⟨⟨⟨ws, e1⟩, fun m => z.na (x.na D0 _ e nt_lst m), fun m => z.nf (x.nf D0 _ e nt_lst m)⟩, e1⟩
theorem RelE.wip {e : En} {σ : L2.St} (q : RelE K S H e σ) : ∀ vs : List Nat, RelE K S H (wip e vs) (wipe σ vs)
  | [] => q
  | v :: vs => by
    have ih := RelE.wip q vs
    refine ⟨by unfold Bk.wip wipe; rw [List.length_set, List.length_set]; exact ih.len, fun i y ey => ?_⟩
    unfold Bk.wip at ey
    by_cases hv : v = i
    · subst hv
      by_cases hl : v < (Bk.wip e vs).length
      · rw [List.getElem?_set_self hl] at ey; cases ey
      · rw [List.getElem?_eq_none (by simpa using hl)] at ey; cases ey
    · rw [List.getElem?_set_ne hv] at ey
      obtain ⟨w, ew, rw'⟩ := ih.sl i y ey
      exact ⟨w, by unfold wipe; rw [List.getElem?_set_ne hv]; exact ew, rw'⟩

/-- one turn of a comprehension -/
def TurnOk (K : PySem.W.Frag) (h : Hq) (e : En) (σ : L2.St) (f : D → M (Option D)) (g : TG) (tt : TT) (te : TE) (vs : List Nat) : Prop :=
  ∀ S2 H2 x d (Ra : VK) (Rn : Hp → Prop), RelH K S2 H2 h → RelE K S2 H2 e σ → RV K S2 H2 d x →
    (f d).All (fun r => match r with
      | .ok (some z) => ∀ S' H' v, Ext S2 H2 S' H' → RelH K S' H' h → RV K S' H' z v → Ra v H'
      | .ok none => ∀ S' H', Ext S2 H2 S' H' → RelH K S' H' h → Rn H'
      | .ex _ => False) →
    g x (wipe σ vs) H2 fun σ2 H2' => wipe σ2 vs = wipe σ vs ∧ tt σ2 H2' fun b H3 => if b = true then te σ2 H3 Ra else Rn H3
theorem comp_ok {e : En} {σ : L2.St} {J : It} {xs : List D} {f : D → M (Option D)} {g : TG} {tt : TT} {te : TE} {vs : List Nat} {Q : VK} {D0 : Addr} (r : RelH K S H h) (re : RelE K S H e σ) (it : ItOk K S H (fun h' => h' = h) J xs)
    (tn : TurnOk K h e σ f g tt te vs) (n0 : H D0 = none) (hx : xs.length ≤ lim)
    (hb : (cmpL f xs).All (fun q => match q with
      | .ok ys => ∀ S' H', Ext S H S' H' → RelH K S' H' h → ∀ v, RV K S' H' (.lst ys) v → Q v H'
      | .ex _ => False)) :
    ∃ W : Nat → Nat → Hp → Prop, (∃ m, W 0 m (upd H D0 (.lst []))) ∧ ∀ i m H, W i m H →
      (J.stop i H ∧ Q (.ref D0) H) ∨ (J.go i H ∧ ∃ Nx : Hp → Prop, (∀ H', Nx H' → ∃ m', m' < m ∧ W (i + 1) m' H') ∧ ∀ x H', J.yld i H x H' → g x (wipe σ vs) H' fun σ2 H2 => wipe σ2 vs = wipe σ vs ∧ tt σ2 H2 fun b H3 =>
        if b = true then te σ2 H3 fun y H4 => ∃ acc, H4 D0 = some (.lst acc) ∧ acc.length < sizeLine ∧ Nx (upd H4 D0 (.lst (acc ++ [y]))) else Nx H3) := by
  let Wv : Nat → Hp → Prop := fun i Hc => ∃ S1 acc accV, Ext S H S1 Hc ∧ RelH K S1 Hc h ∧ Oth S1 Hc D0 ∧ Hc D0 = some (.lst accV) ∧ RVs K S1 Hc acc accV ∧ acc.length ≤ i ∧
    (cmpL f (xs.drop i)).All (fun q => match q with
      | .ok ys => ∀ S' H', Ext S H S' H' → RelH K S' H' h → ∀ v, RV K S' H' (.lst (acc ++ ys)) v → Q v H'
      | .ex _ => False)
  refine ⟨fun i m Hc => m = xs.length - i ∧ i ≤ xs.length ∧ Wv i Hc, ⟨xs.length, by omega, Nat.zero_le _, S, [], [], ?_, r.new n0, ⟨⟨_, upd_same⟩, fun m => ?_, fun m => ?_⟩, upd_same, .nil, Nat.le_refl _, ?_⟩, ?_⟩
  · exact ext_new n0
  · obtain ⟨vs, q⟩ := r.inAs m
    rw [n0] at q; cases q
  · obtain ⟨o, q, _⟩ := r.fzs _ m
    rw [n0] at q; cases q
  · rw [List.drop_zero]
    refine F.All.imp (fun q p => ?_) hb
    cases q with
    | ok ys => exact fun S' H' x' r' v rv => p S' H' x' r' v rv
    | ex c => exact p
  · rintro i m Hc ⟨rfl, hi, S1, acc, accV, x1, r1, z1, e1, q1, ha, hb1⟩
    by_cases hlt : i < xs.length
    · refine .inr ⟨it.go i S1 Hc h rfl x1 r1 hlt, Wv (i + 1), fun H' w => ⟨xs.length - (i + 1), by omega, rfl, hlt, w⟩, fun x H' y => ?_⟩
      obtain ⟨xy, ry, d, ed, rv⟩ := it.yld i S1 Hc h x H' rfl x1 r1 hlt y
      obtain ⟨z1, e1⟩ := z1.ext e1 r1 xy
      replace q1 := RVs.ext r1 xy acc accV q1
      replace x1 := x1.trans xy
      replace r1 := ry
      have edr : xs.drop i = d :: xs.drop (i + 1) := by
        rw [List.drop_eq_getElem_cons hlt]
        congr 1
        rw [List.getElem?_eq_getElem hlt] at ed
        exact Option.some.inj ed
      rw [edr] at hb1
      refine tn S1 H' x d _ _ r1 (re.ext r x1) rv (F.All.imp (fun q p => ?_) (bnd_all hb1))
      cases q with
      | ex c => exact p
      | ok o =>
        cases o with
        | none =>
          intro S' H2 x2 r2
          obtain ⟨z2, e2⟩ := z1.ext e1 r1 x2
          refine ⟨S', acc, accV, x1.trans x2, r2, z2, e2, RVs.ext r1 x2 acc accV q1, by omega, ?_⟩
          refine F.All.imp (fun q p => ?_) (bnd_all p)
          cases q with
          | ok ys => exact p
          | ex c => exact p
        | some dz =>
          intro S' H2 v x2 r2 rv2
          obtain ⟨z2, e2⟩ := z1.ext e1 r1 x2
          have pl : (cmpL f (xs.drop (i + 1))).All (fun q => match q with
              | .ok ys => ∀ S' H', Ext S H S' H' → RelH K S' H' h → ∀ v, RV K S' H' (.lst ((acc ++ [dz]) ++ ys)) v → Q v H'
              | .ex _ => False) := by
            refine F.All.imp (fun q p => ?_) (bnd_all p)
            cases q with
            | ok ys =>
              have p : ∀ S' H', Ext S H S' H' → RelH K S' H' h → ∀ v, RV K S' H' (.lst (acc ++ dz :: ys)) v → Q v H' := p
              have eq : acc ++ [dz] ++ ys = acc ++ dz :: ys := by simp
              show ∀ S' H', Ext S H S' H' → RelH K S' H' h → ∀ v, RV K S' H' (.lst (acc ++ [dz] ++ ys)) v → Q v H'
              rw [eq]; exact p
            | ex c => exact p
          refine ⟨accV, e2, ?_, S', acc ++ [dz], accV ++ [v], ext_oth (x1.trans x2) n0, r2.oth z2, ⟨⟨_, upd_same⟩, z2.na, z2.nf⟩, upd_same, ?_, by simp; omega, pl⟩
          · rw [q1.length]
            exact Nat.lt_of_lt_of_le (show acc.length < lim by omega) lim_le
          · exact RVs.oth z2 _ _ ((RVs.ext r1 x2 acc accV q1).append (.cons rv2 .nil))
    · have hi2 : i = xs.length := by omega
      subst hi2
      refine .inl ⟨it.stop S1 Hc h rfl x1 r1, ?_⟩
      rw [List.drop_length] at hb1
      have hb1 : ∀ S' H', Ext S H S' H' → RelH K S' H' h → ∀ v, RV K S' H' (.lst (acc ++ [])) v → Q v H' := hb1
      refine hb1 (S1.frz D0) Hc (ext_frzAt x1 n0) (r1.frzAt z1) _ ?_
      unfold RV
      rw [List.append_nil]
      exact ⟨D0, accV, rfl, e1, .inr rfl, RVs.mono (S1 := S1.frz D0) (fun a m => Or.inl m) rfl (fun _ _ m => m) acc accV q1⟩
end
end Bk
/-! BkI: the soundness of expressions. -/
namespace Bk
open PySem PySem.Spec PyProof.Rows L2

section
variable (K : PySem.W.Frag) (mg : Str → Option Value) (G : Nm) (gc : Gc) (cl : Cl) (E : XK)
def tI (it : Ix) : TI := fun σ H R => ∃ S e h, RelH K S H h ∧ RelE K S H e σ ∧ (evI gc cl it e h).All (Po K mg G S H h (fun S' H' xs => ∀ J, ItOk K S' H' (hqI it h) J xs → R J H') E)
end
section
variable {K : PySem.W.Frag} {mg : Str → Option Value} {G : Nm} {gc : Gc} {cl : Cl} {E : XK} {S : Sg} {H : Hp} {h : Hq} {e : En} {σ : L2.St} {β : Type} {q : Sg → Hp → β → Prop}
theorem stepI {x : Ix} {f : List D → M β} {R : It → Hp → Prop} (r : RelH K S H h) (re : RelE K S H e σ) (hb : (bnd (evI gc cl x e h) f).All (Po K mg G S H h q E))
    (k : ∀ a S1 H1 J, Ext S H S1 H1 → RelH K S1 H1 h → RelE K S1 H1 e σ → ItOk K S1 H1 (hqI x h) J a → (f a).All (Po K mg G S1 H1 h q E) → R J H1) : tI K mg G gc cl E x σ H R := by
  refine ⟨S, e, h, r, re, F.All.imp (fun y p => ?_) (bnd_all hb)⟩
  cases y with
  | ok a => exact fun S' H' x' r' J it => k a S' H' J x' r' (re.ext r x') it (F.All.imp (fun z pz => pz.up x' z) p)
  | ex c => exact p
theorem noEx_all {α : Type} {m : M α} {P : Rx α → Prop} (hb : (noEx m).All P) : m.All fun r => match r with
    | .ok a => P (.ok a)
    | .ex _ => False := by
  refine F.All.imp (fun r p => ?_) (F.All_bind.mp hb)
  cases r with
  | ok a => exact p
  | ex c => exact p.elim
end

section
variable {k : Nat} {G : Nm} {gc : Gc} {cl : Cl} {N : List Str}
/-- anything that may be walked, by its value -/
theorem pi_any {X : Cx} {tg e : PySem.Expr} {te : TE} (he : PE X e te) :
    PI X tg e (fun σ H R => te σ H fun v H1 => (∃ a, v = .ref a ∧ (∃ xs, SqL X.K H1 a xs) ∧ R (Itl X.K a) H1) ∨ (∃ a, v = .ref a ∧ (∃ xs, SqT X.K H1 a xs) ∧ R (Itt X.K a) H1) ∨ ∃ x, v = .str x ∧ R (Its x) H1) := by
  refine ⟨fun pins s σ H R I hw => ?_⟩
  refine thn (he.run pins s σ H _ I hw) fun u s1 ⟨x, H1, I1, r1, q1⟩ => ?_
  rcases q1 with ⟨a, rfl, ⟨xs, hq⟩, q⟩ | ⟨a, rfl, ⟨xs, hq⟩, q⟩ | ⟨z, rfl, q⟩
  · obtain rfl : u = Value.ref a := r1
    obtain ⟨its, rv, p, hz⟩ := I1.list hq
    refine wpAny_pyIter_list p.isList ⟨s1.heap.objs.size, [s1.heap.objs.size], _, _, H1, rfl, I1.kept (t' := s1.toks) fun b o e => Heap.get?_push_of_some _ e, turn_list a _, ⟨_, Heap.get?_push_size _ rfl, rfl, rfl⟩, fun b hb => ?_, q⟩
    obtain rfl : b = s1.heap.objs.size := by simpa using hb
    exact I1.fpOk (Nat.le_refl _) (I1.hok.fresh (Nat.le_refl _))
  · obtain rfl : u = Value.ref a := r1
    obtain ⟨its, rv, p, hz⟩ := I1.tuple hq
    refine wpAny_pyIter_tuple (show s1.heap.IsTuple a its.toArray from p) ⟨s1.heap.objs.size, [s1.heap.objs.size], _, _, H1, rfl, I1.kept (t' := s1.toks) fun b o e => Heap.get?_push_of_some _ e, turn_tuple a _, ⟨_, Heap.get?_push_size _ rfl, rfl, rfl⟩, fun b hb => ?_, q⟩
    obtain rfl : b = s1.heap.objs.size := by simpa using hb
    exact I1.fpOk (Nat.le_refl _) (I1.hok.fresh (Nat.le_refl _))
  · obtain ⟨t, rfl⟩ := r1
    cases ha : z.cps.all (· < 128)
    · exact wpAny_pyIter_wide ha (pi_one (tk := s1.toks) I1 _ (turn_str _ z t "str_iterator" (.inr rfl)) ⟨_, Heap.get?_push_size _ rfl, rfl, rfl⟩ q)
    · exact wpAny_pyIter_ascii ha (pi_one (tk := s1.toks) I1 _ (turn_str _ z t "str_ascii_iterator" (.inl rfl)) ⟨_, Heap.get?_push_size _ rfl, rfl, rfl⟩ q)

/-! ### calls with keywords -/
theorem kw_some {env : Env} {pos : Pos} : ∀ {kws : List Keyword}, (∀ x ∈ kws, x.arg.isSome = true) → (backToKw pos (keywordEach kws env)).all (·.1.isSome) = true ∧ (backToKw pos (keywordEach kws env)).any (·.1.isNone) = false ∧ ((backToKw pos (keywordEach kws env)).filterMap (·.1)).map some = kws.map (·.arg)
  | [], _ => ⟨rfl, rfl, rfl⟩
  | ⟨nm, v, p⟩ :: kws, h => by
    obtain ⟨h1, h2, h3⟩ := kw_some (env := env) (pos := pos) (kws := kws) fun x hx => h x (List.mem_cons_of_mem _ hx)
    have h0 : nm.isSome = true := h ⟨nm, v, p⟩ List.mem_cons_self
    cases nm with
    | none => cases h0
    | some y =>
      refine ⟨?_, ?_, ?_⟩
      · show (true && (backToKw pos (keywordEach kws env)).all (·.1.isSome)) = true
        rw [h1]; rfl
      · show (false || (backToKw pos (keywordEach kws env)).any (·.1.isNone)) = false
        rw [h2]; rfl
      · show some y :: ((backToKw pos (keywordEach kws env)).filterMap (·.1)).map some = some y :: kws.map (·.arg)
        rw [h3]
theorem map_some_inj {α : Type} : ∀ {xs ys : List α}, xs.map some = ys.map some → xs = ys
  | [], [], _ => rfl
  | [], _ :: _, h => by simp at h
  | _ :: _, [], h => by simp at h
  | x :: xs, y :: ys, h => by
    simp only [List.map_cons, List.cons.injEq, Option.some.injEq] at h
    rw [h.1, map_some_inj h.2]
def tCallKS (n : Nat) (sp : Sp) (E : XK) (t tk : TA) : TE := fun σ H Q => t σ H fun vs H1 => vs.length = n ∧ tk σ H1 fun zs H2 => sp (vs ++ zs) H2 Q E
section
variable {X : Cx} {CX : CXT} {f : Addr} {fd : FuncData} {ps : List Str} {sp : Sp} {E : XK} {x : Str} {p pos : Pos} {es : List PySem.Expr} {kws : List Keyword} {t tk : TA}
theorem run_kws (F : FnOk X.prog X.w X.K X.mg X.base CX k f fd ps sp) (hr : Room k X.A)
    (hb : ∀ (s : Shared) (us ws : List Value), X.K.In s.heap → (us ++ ws).length = ps.length → BindsTo s fd ⟨us, (ps.drop us.length).zip ws⟩ (ps.zip (us ++ ws))) (hx : Passes CX X E)
    {pins : List (Addr × Obj)} {σ : L2.St} {Q : VK} {us ws : List Value} {vs zs : List V} {s2 : Shared} {H2 : Hp} {n : Nat} (I2 : Inv X pins σ H2 s2) (r : Vals vs us) (rz : Vals zs ws) (el : vs.length = n) (q : sp (vs ++ zs) H2 Q E) :
    wpAny (model X.prog X.w) X.A (call (.ref f) us ((ps.drop n).zip ws)) (EP X pins σ Q) X.xe s2 := by
  have r2 := r.append rz
  have hl2 : (us ++ ws).length = ps.length := by rw [← r2.length]; exact F.len _ _ _ _ q
  have eu : us.length = n := by rw [← r.length]; exact el
  have hbi := hb s2 us ws I2.kIn hl2
  rw [eu] at hbi
  refine wpAny_call (codeAny_mono (F.run X.A X.stack s2 H2 ⟨us, (ps.drop n).zip ws⟩ (us ++ ws) (vs ++ zs) Q E hr I2.env0 hbi r2 q) fun r s' hq => ?_)
  cases r with
  | error e => exact hx pins σ H2 s2 e s' I2 hq
  | ok fl =>
    cases fl with
    | ret u => exact I2.after hq
    | next => exact hq.elim
    | brk => exact hq.elim
    | cont => exact hq.elim
theorem pe_callKS {e : PySem.Expr} (F : FnOk X.prog X.w X.K X.mg X.base CX k f fd ps sp) (hr : Room k X.A) (hg : Gl X x) (hm : X.mg x = some (.ref f)) (hk : PySem.W.keepIn X.K (.ref f) = true)
    (hb : ∀ (s : Shared) (us ws : List Value), X.K.In s.heap → (us ++ ws).length = ps.length → BindsTo s fd ⟨us, (ps.drop us.length).zip ws⟩ (ps.zip (us ++ ws))) (hx : Passes CX X E)
    (hst : (e :: es).all notSt = true) (hn : kws.map (·.arg) = (ps.drop (e :: es).length).map some) (hdb : (x == ("__debug__" : Str)) = false) (ha : PA X (e :: es) t) (hkw : PK X kws tk) :
    PE X (.Call (.Name x p) (e :: es) kws pos) (tCallKS (e :: es).length sp E t tk) := by
  have hso : ∀ y ∈ kws, y.arg.isSome = true := fun y hy => by
    have : y.arg ∈ kws.map (·.arg) := List.mem_map_of_mem hy
    rw [hn] at this
    obtain ⟨z, _, e⟩ := List.mem_map.mp this
    rw [← e]; rfl
  refine ⟨fun pins s σ H Q I h => ?_⟩
  obtain ⟨h1, h2, h3⟩ := kw_some (env := X.env) (pos := pos) hso
  have hks : (backToKw pos (keywordEach kws X.env)).filterMap (·.1) = ps.drop (e :: es).length := map_some_inj (h3.trans hn)
  refine wpAny_Call_Name_kw (ld_glob I hg hm ?_ hdb)
  have hst2 := hst
  rw [List.all_cons, Bool.and_eq_true] at hst2
  refine PySem.W.callWith_KW (h₀ := X.base) I.ok.mod.kin hk h1 (thn (ha.run pos pins s σ H _ I h) fun us s1 ⟨vs, H1, I1, r, el, q⟩ => ?_) ?_ (star_cons hst2.1)
  · refine thn (hkw.run pos pins s1 σ H1 _ I1 q) fun ws s2 ⟨zs, H2, I2, rz, q2⟩ => ⟨I2.kIn, ?_⟩
    rw [hks]
    exact run_kws F hr hb hx I2 r rz el q2
  · rw [star_any hst, h2]; rfl
theorem pe_callKS0 (F : FnOk X.prog X.w X.K X.mg X.base CX k f fd ps sp) (hr : Room k X.A) (hg : Gl X x) (hm : X.mg x = some (.ref f)) (hk : PySem.W.keepIn X.K (.ref f) = true)
    (hb : ∀ (s : Shared) (us ws : List Value), X.K.In s.heap → (us ++ ws).length = ps.length → BindsTo s fd ⟨us, (ps.drop us.length).zip ws⟩ (ps.zip (us ++ ws))) (hx : Passes CX X E)
    (hn : kws.map (·.arg) = ps.map some) (hdb : (x == ("__debug__" : Str)) = false) (hkw : PK X kws tk) :
    PE X (.Call (.Name x p) [] kws pos) (fun σ H Q => tk σ H fun zs H2 => sp zs H2 Q E) := by
  have hso : ∀ y ∈ kws, y.arg.isSome = true := fun y hy => by
    have : y.arg ∈ kws.map (·.arg) := List.mem_map_of_mem hy
    rw [hn] at this
    obtain ⟨z, _, e⟩ := List.mem_map.mp this
    rw [← e]; rfl
  refine ⟨fun pins s σ H Q I h => ?_⟩
  obtain ⟨h1, h2, h3⟩ := kw_some (env := X.env) (pos := pos) hso
  have hks : (backToKw pos (keywordEach kws X.env)).filterMap (·.1) = ps.drop 0 := map_some_inj (h3.trans hn)
  refine wpAny_Call_Name_kw (ld_glob I hg hm ?_ hdb)
  refine PySem.W.callWith_KW0 (h₀ := X.base) I.ok.mod.kin hk h1 (thn (hkw.run pos pins s σ H _ I h) fun ws s2 ⟨zs, H2, I2, rz, q2⟩ => ⟨I2.kIn, ?_⟩) (by rw [h2]; rfl)
  rw [hks]
  exact run_kws (us := []) (vs := []) F hr hb hx I2 .nil rz rfl q2
end

/-! ### helpers of the induction -/
theorem ownN_map (N : List Str) : ∀ own : List Nat, (ownN N own).map (·.2) = own
  | [] => rfl
  | i :: r => by
    show i :: (ownN N r).map (·.2) = i :: r
    rw [ownN_map N r]
theorem inv_cmp {sc : Scope} {o : Cop} {a b : Ex} {e : PySem.Expr} (h : mE G N (.cmp o a b) sc e = true) : ∃ l op r p, e = .Compare l [op] [r] p ∧ mCop o op = true ∧ notSet r = true ∧ mE G N a sc l = true ∧ mE G N b sc r = true := by
  unfold mE at h
  split at h
  · simp only [Bool.and_eq_true] at h
    exact ⟨_, _, _, _, rfl, h.1.1.1, h.1.1.2, h.1.2, h.2⟩
  · cases h
theorem inv_chn {sc : Scope} {o p : Cop} {a b c : Ex} {e : PySem.Expr} (h : mE G N (.chn o p a b c) sc e = true) : ∃ l op op' r r' p', e = .Compare l [op, op'] [r, r'] p' ∧ mCop o op = true ∧ mCop p op' = true ∧ notSet r' = true ∧ mE G N a sc l = true ∧ mE G N b sc r = true ∧ mE G N c sc r' = true := by
  unfold mE at h
  split at h
  · simp only [Bool.and_eq_true] at h
    exact ⟨_, _, _, _, _, _, rfl, h.1.1.1.1.1.1, h.1.1.1.1.1.2, h.1.1.1.2, h.1.1.2, h.1.2, h.2⟩
  · cases h
theorem wipe_wipe (σ : L2.St) (vs : List Nat) : wipe (wipe σ vs) vs = wipe σ vs := by
  refine List.ext_getElem? fun j => ?_
  rw [wipe_get, wipe_get]
  by_cases hj : j ∈ vs
  · rw [if_pos hj, if_pos hj, Option.map_map]; rfl
  · rw [if_neg hj, if_neg hj]
theorem bnd_assoc {α β γ : Type} {m : M α} {f : α → M β} {g : β → M γ} : bnd (bnd m f) g = bnd m fun a => bnd (f a) g := by
  unfold bnd
  rw [F.bind_assoc]
  congr 1
  funext r
  cases r <;> rfl
section
variable {K : PySem.W.Frag} {mg : Str → Option Value} {E : XK} {S : Sg} {H : Hp} {h : Hq} {e : En} {σ : L2.St} {β : Type} {q : Sg → Hp → β → Prop}
/-- a comparison's answer -/
theorem opC_ok {o : Cop} {a b : Vv} {v w : V} {Q : VK} {g : Vv → M β} (r : RelH K S H h) (ra : RW K S H a v) (rb : RW K S H b w)
    (hb : (bnd (op2 h (fun x y => (cmpD o x y).map .bl) a b) g).All (Po K mg G S H h q E))
    (k : ∀ k S' H', Ext S H S' H' → RelH K S' H' h → (g (.d (.bl k))).All (Po K mg G S' H' h q E) → Q (.bl k) H') : rCmp K (cmpD o) v w H Q := by
  have hb3 := bnd_all hb
  unfold op2 at hb3
  split at hb3
  · rename_i p' q' ep eq
    simp only [] at hb3
    cases hc : cmpD o p' q' with
    | none => rw [hc] at hb3; exact hb3.elim
    | some kk =>
      rw [hc] at hb3
      refine ⟨S, h, a, b, p', q', .bl kk, r, ra, rb, ep, eq, by show Option.map D.bl (cmpD o p' q') = _; rw [hc]; rfl, fun S' v' H' x' r' rv => ?_⟩
      obtain rfl : v' = .bl kk := by unfold RV at rv; exact rv
      exact k kk S' H' x' r' (F.All.imp (fun z pz => pz.up x' z) hb3)
  · exact hb3.elim
theorem chn_ok {o p : Cop} {a b c : Ex} {Q : VK} (r : RelH K S H h) (re : RelE K S H e σ)
    (hb : (bnd (evE gc cl a e h) fun v => bnd (evE gc cl b e h) fun w => bnd (op2 h (fun x y => (cmpD o x y).map .bl) v w) fun k => match k with
      | .d (.bl true) => bnd (evE gc cl c e h) fun u => op2 h (fun x y => (cmpD p x y).map .bl) w u
      | .d (.bl false) => ok (.d (.bl false))
      | _ => .stk).All (Po K mg G S H h (qV K Q) E)) :
    tChain (rCmp K (cmpD o)) (rCmp K (cmpD p)) (tE K mg G gc cl E a) (tE K mg G gc cl E b) (tE K mg G gc cl E c) σ H Q := by
  refine stepE r re hb fun a S1 H1 v x1 r1 re1 ra hb1 => stepE r1 re1 hb1 fun b S2 H2 w x2 r2 re2 rb hb2 => ?_
  refine opC_ok r2 (RW.ext r1 x2 a v ra) rb hb2 fun k S' H' x' r' hb3 => ⟨k, rfl, ?_⟩
  cases k with
  | true =>
    refine iteT (stepE r' (re2.ext r2 x') hb3 fun c S3 H3 u x3 r3 re3 rc hb4 => ?_)
    exact op2_ok r3 (RW.ext r2 (x'.trans x3) b w rb) rc hb4
  | false => exact iteF (hb3 S' H' (Ext.refl _ _) r' _ (by unfold RW RV; rfl))
theorem cmpT_ok {o : Cop} {a b : Ex} {Q : Bool → Hp → Prop} (r : RelH K S H h) (re : RelE K S H e σ)
    (hb : (bnd (bnd (evE gc cl a e h) fun v => bnd (evE gc cl b e h) fun w => op2 h (fun x y => (cmpD o x y).map .bl) v w) fun v => match rdV h v with
      | some d => lf (truD d)
      | none => .stk).All (Po K mg G S H h (qB Q) E)) :
    tTest (tOp (rCmp K (cmpD o)) (tE K mg G gc cl E a) (tE K mg G gc cl E b)) σ H Q := by
  rw [bnd_assoc] at hb
  refine stepE r re hb fun a S1 H1 v x1 r1 re1 ra hb1 => ?_
  rw [bnd_assoc] at hb1
  refine stepE r1 re1 hb1 fun b S2 H2 w x2 r2 re2 rb hb2 => ?_
  exact opC_ok r2 (RW.ext r1 x2 a v ra) rb hb2 fun k S' H' x' r' hb3 => ⟨k, rfl, hb3 S' H' (Ext.refl _ _) r'⟩
theorem chnT_ok {o p : Cop} {a b c : Ex} {Q : Bool → Hp → Prop} (r : RelH K S H h) (re : RelE K S H e σ)
    (hb : (bnd (bnd (evE gc cl a e h) fun v => bnd (evE gc cl b e h) fun w => bnd (op2 h (fun x y => (cmpD o x y).map .bl) v w) fun k => match k with
      | .d (.bl true) => bnd (evE gc cl c e h) fun u => op2 h (fun x y => (cmpD p x y).map .bl) w u
      | .d (.bl false) => ok (.d (.bl false))
      | _ => .stk) fun v => match rdV h v with
      | some d => lf (truD d)
      | none => .stk).All (Po K mg G S H h (qB Q) E)) :
    tTest (tChain (rCmp K (cmpD o)) (rCmp K (cmpD p)) (tE K mg G gc cl E a) (tE K mg G gc cl E b) (tE K mg G gc cl E c)) σ H Q := by
  rw [bnd_assoc] at hb
  refine stepE r re hb fun a S1 H1 v x1 r1 re1 ra hb1 => ?_
  rw [bnd_assoc] at hb1
  refine stepE r1 re1 hb1 fun b S2 H2 w x2 r2 re2 rb hb2 => ?_
  rw [bnd_assoc] at hb2
  refine opC_ok r2 (RW.ext r1 x2 a v ra) rb hb2 fun k S' H' x' r' hb3 => ⟨k, rfl, ?_⟩
  cases k with
  | true =>
    simp only [] at hb3
    rw [bnd_assoc] at hb3
    refine iteT (stepE r' (re2.ext r2 x') hb3 fun c S3 H3 u x3 r3 re3 rc hb4 => ?_)
    exact opC_ok r3 (RW.ext r2 (x'.trans x3) b w rb) rc hb4 fun k S4 H4 x4 r4 hb5 => ⟨k, rfl, hb5 S4 H4 (Ext.refl _ _) r4⟩
  | false => exact iteF ⟨false, rfl, hb3 S' H' (Ext.refl _ _) r'⟩
theorem seq_ok {d : D} {v : V} {R : It → Hp → Prop} {hq : Hq → Prop} (r : RelH K S H h) (ra : RW K S H (.d d) v) (hb : (lf (seqD d)).All (Po K mg G S H h (fun S' H' xs => ∀ J, ItOk K S' H' hq J xs → R J H') E)) :
    (∃ a, v = .ref a ∧ (∃ xs, SqL K H a xs) ∧ R (Itl K a) H) ∨ (∃ a, v = .ref a ∧ (∃ xs, SqT K H a xs) ∧ R (Itt K a) H) ∨ ∃ x, v = .str x ∧ R (Its x) H := by
  have ra : RV K S H d v := ra
  unfold seqD at hb
  split at hb
  · unfold RV at ra
    obtain ⟨a, vs, rfl, t, q⟩ := ra
    exact .inr (.inl ⟨a, rfl, ⟨vs, t⟩, hb S H (Ext.refl S H) r _ (it_tup r t q)⟩)
  · unfold RV at ra
    obtain ⟨a, vs, rfl, t, f, q⟩ := ra
    exact .inl ⟨a, rfl, ⟨vs, SqL.of t⟩, hb S H (Ext.refl S H) r _ (it_lst r t f q)⟩
  · split at hb
    · unfold RV at ra
      exact .inr (.inr ⟨_, ra, hb S H (Ext.refl S H) r _ it_str⟩)
    · exact hb.elim
  · exact hb.elim
theorem rng_ok {i j : Int} {P : Rx (List D) → Prop} (hb : (lf (rngD i j)).All P) : ((-(1000000 : Int) ≤ i ∧ i ≤ 1000000) ∧ (-(1000000 : Int) ≤ j ∧ j ≤ 1000000)) ∧ P (.ok ((List.range (j - i).toNat).map fun (n : Nat) => .int (i + (n : Int)))) := by
  unfold rngD at hb
  split at hb
  · exact ⟨‹_›, hb⟩
  · exact hb.elim
theorem rngN_ok {i j : Int} {P : Rx (List D) → Prop} (hb : (lf (rngN i j)).All P) : ((-(1000000 : Int) ≤ i ∧ i ≤ 1000000) ∧ (-(1000000 : Int) ≤ j ∧ j ≤ 1000000)) ∧ P (.ok ((List.range (i - j).toNat).map fun (n : Nat) => .int (i - (n : Int)))) := by
  unfold rngN at hb
  split at hb
  · exact ⟨‹_›, hb⟩
  · exact hb.elim
end
section
variable {X : Cx} {sc : Scope} {top : Bool} {E : XK}
theorem pw_of {op : BoolOp} {vs : List PySem.Expr} {p : Pos} {t : TT} (h : PT X (.BoolOp op vs p) t) : PW X (.BoolOp op vs p) t := ⟨fun wh pins s σ H Q I q => h.run pins s σ H Q I q⟩
theorem andT_ok {a b : Tx} {l r : PySem.Expr} {rest : List PySem.Expr} {p : Pos} (ha : PT X l (tT X.K X.mg G gc cl E a)) (hb : PW X (.BoolOp .And (r :: rest) p) (tT X.K X.mg G gc cl E b)) : PW X (.BoolOp .And (l :: r :: rest) p) (tT X.K X.mg G gc cl E (.and a b)) := by
  refine PW.imp (pw_and ha hb) fun σ H Q q => ?_
  obtain ⟨S, e, h, r, re, hb⟩ := q
  unfold evT at hb
  refine stepT r re hb fun k S1 H1 x1 r1 re1 hb1 => ?_
  cases k with
  | true => exact iteT ⟨S1, e, h, r1, re1, hb1⟩
  | false => exact iteF (hb1 S1 H1 (Ext.refl _ _) r1)
theorem orT_ok {a b : Tx} {l r : PySem.Expr} {rest : List PySem.Expr} {p : Pos} (ha : PT X l (tT X.K X.mg G gc cl E a)) (hb : PW X (.BoolOp .Or (r :: rest) p) (tT X.K X.mg G gc cl E b)) : PW X (.BoolOp .Or (l :: r :: rest) p) (tT X.K X.mg G gc cl E (.or a b)) := by
  refine PW.imp (pw_or ha hb) fun σ H Q q => ?_
  obtain ⟨S, e, h, r, re, hb⟩ := q
  unfold evT at hb
  refine stepT r re hb fun k S1 H1 x1 r1 re1 hb1 => ?_
  cases k with
  | true => exact iteT (hb1 S1 H1 (Ext.refl _ _) r1)
  | false => exact iteF ⟨S1, e, h, r1, re1, hb1⟩
theorem ity_pe (C : Cok X N sc top E k G gc cl) {t : Ity} {p : Pos} (h : glb sc (Str.ofString (ityS t)) = true) : PE X (.Name (Str.ofString (ityS t)) p) (tC (.ty (ityS t))) := by
  have hg := C.gl h
  cases t with
  | int => exact pe_bltn hg (C.free (by decide)) PyProof.Rows.boot_int rfl (by decide) (by decide)
  | bool => exact pe_bltn hg (C.free (by decide)) PyProof.Rows.boot_bool rfl (by decide) (by decide)
  | str => exact pe_bltn hg (C.free (by decide)) PyProof.Rows.boot_str rfl (by decide) (by decide)
  | tuple => exact pe_bltn hg (C.free (by decide)) PyProof.Rows.boot_tuple rfl (by decide) (by decide)
  | list => exact pe_bltn hg (C.free (by decide)) PyProof.Rows.boot_list rfl (by decide) (by decide)
theorem blt_ok (C : Cok X N sc top E k G gc cl) {b : Blt} {x : Str} {y : PySem.Expr} {xs : List PySem.Expr} {p pp : Pos} {t : TA} (h1 : bltS b = x) (h2 : glb sc x = true) (hst : notSt y = true ∧ xs.all notSt = true) (pa : PA X (y :: xs) t) :
    PE X (.Call (.Name x p) (y :: xs) [] pp) (tCB (rBl X.K (bltD b)) t) := by
  subst h1
  have hg := C.gl h2
  have s1 := star_cons (es := xs) (env := X.env) hst.1
  have s2 := star_any (pos := pp) (env := X.env) hst.2
  cases b with
  | len => exact pe_callB cR_len hg (C.free (by decide)) boot_len pa (by decide) (by decide) s1 s2
  | min => exact pe_callB (cR_min C.calm (hu_of C.room)) hg (C.free (by decide)) boot_min pa (by decide) (by decide) s1 s2
  | max => exact pe_callB (cR_max C.calm (hu_of C.room)) hg (C.free (by decide)) boot_max pa (by decide) (by decide) s1 s2
  | sum => exact pe_callB (cR_sum C.calm) hg (C.free (by decide)) boot_sum pa (by decide) (by decide) s1 s2
  | all => exact pe_callB (cR_all C.calm) hg (C.free (by decide)) boot_all pa (by decide) (by decide) s1 s2
  | any => exact pe_callB (cR_any C.calm) hg (C.free (by decide)) boot_any pa (by decide) (by decide) s1 s2
  | tuple => exact pe_callTy cR_tuple hg (C.free (by decide)) PyProof.Rows.boot_tuple pa (by decide) (by decide) s1 s2
  | list => exact pe_callTy cR_list hg (C.free (by decide)) PyProof.Rows.boot_list pa (by decide) (by decide) s1 s2
  | abs => exact pe_callB cR_abs hg (C.free (by decide)) boot_abs pa (by decide) (by decide) s1 s2
  | str => exact pe_callTy (cR_str) hg (C.free (by decide)) PyProof.Rows.boot_str pa (by decide) (by decide) s1 s2
  | int => exact pe_callTy (cR_int) hg (C.free (by decide)) PyProof.Rows.boot_int pa (by decide) (by decide) s1 s2
end

theorem sTv {X : Cx} {sc : Scope} {E : XK} {x : Ex} {e : PySem.Expr} (hc : isCm x = false) (h : mT G N (.val x) sc e = true) (p : mE G N x sc e = true → PE X e (tE X.K X.mg G gc cl E x)) : PT X e (tT X.K X.mg G gc cl E (.val x)) := by
  unfold mT at h
  rw [Bool.and_eq_true, hc, Bool.false_or] at h
  refine PT.imp (pt_truth (p h.2) (isTrue_pl h.1)) fun σ H Q q => ?_
  obtain ⟨S, e, h, r, re, hb⟩ := q
  unfold evT at hb
  refine stepE r re hb fun a S1 H1 v x1 r1 re1 ra hb1 => ?_
  split at hb1
  · rename_i p ep
    cases ht : truD p with
    | none => rw [ht] at hb1; exact hb1.elim
    | some b =>
      rw [ht] at hb1
      exact ⟨b, ra.tru r1 ep ht, hb1 S1 H1 (Ext.refl S1 H1) r1⟩
  · exact hb1.elim
theorem lc1_imp {K : PySem.W.Frag} {mg : Str → Option Value} {E : XK} {elt : Ex} {tg : Tg} {it : Ix} {own : List Nat} {σ : L2.St} {H : Hp} {Q : VK} (h2 : ((tgS tg).all fun i => decide (i ∈ own)) = true) (q : tE K mg G gc cl E (.cmp1 elt tg it own) σ H Q) :
    tLc (tI K mg G gc cl E it) (gT K tg) tYes (tE K mg G gc cl (fun _ _ _ => False) elt) own σ H Q := by
  obtain ⟨S, e, h, r, re, hb⟩ := q
  unfold evE at hb
  refine stepI r re hb fun xs S1 H1 J x1 r1 re1 it1 hb1 D0 n0 => ?_
  split at hb1
  · rename_i hle
    have hb2 := noEx_all (bnd_all hb1)
    refine comp_ok r1 re1 ⟨fun i S2 H2 h2 eq => it1.go i S2 H2 h2 (fun _ => eq), fun S2 H2 h2 eq => it1.stop S2 H2 h2 (fun _ => eq), fun i S2 H2 h2 x H' eq => it1.yld i S2 H2 h2 x H' (fun _ => eq)⟩ ?_ n0 (Nat.le_of_ble_eq_true hle) (F.All.imp (fun y p => ?_) hb2)
    · intro S2 H2 x d Ra Rn r2 re2 rv hf
      simp only [] at hf
      split at hf
      · rename_i e1 ea
        refine ⟨S2, wip e own, h, d, e1, r2, re2.wip own, rv, ea, fun σ2 re3 df => ⟨(df own (fun i hi => of_decide_eq_true (List.all_eq_true.mp h2 i hi))).trans (wipe_wipe σ own), ?_⟩⟩
        refine iteT (B := Rn H2) ⟨S2, e1, h, r2, re3, F.All.imp (fun y p => ?_) (bnd_all hf)⟩
        cases y with
        | ex c => exact p.elim
        | ok v =>
          cases v with
          | d z => exact fun S' H' x' r' w rw' => p S' H' w x' r' rw'
          | r n => exact p.elim
      · exact hf.elim
    · cases y with
      | ok ys => exact fun S' H' x' r' v rv => p S' H' x' r' v rv
      | ex c => exact p
  · exact hb1.elim
theorem lcc_imp {K : PySem.W.Frag} {mg : Str → Option Value} {E : XK} {elt : Ex} {tg : Tg} {it : Ix} {c : Tx} {own : List Nat} {σ : L2.St} {H : Hp} {Q : VK} (h2 : ((tgS tg).all fun i => decide (i ∈ own)) = true) (q : tE K mg G gc cl E (.cmpc elt tg it c own) σ H Q) :
    tLc (tI K mg G gc cl E it) (gT K tg) (tT K mg G gc cl (fun _ _ _ => False) c) (tE K mg G gc cl (fun _ _ _ => False) elt) own σ H Q := by
  obtain ⟨S, e, h, r, re, hb⟩ := q
  unfold evE at hb
  refine stepI r re hb fun xs S1 H1 J x1 r1 re1 it1 hb1 D0 n0 => ?_
  split at hb1
  · rename_i hle
    have hb2 := noEx_all (bnd_all hb1)
    refine comp_ok r1 re1 ⟨fun i S2 H2 h2 eq => it1.go i S2 H2 h2 (fun _ => eq), fun S2 H2 h2 eq => it1.stop S2 H2 h2 (fun _ => eq), fun i S2 H2 h2 x H' eq => it1.yld i S2 H2 h2 x H' (fun _ => eq)⟩ ?_ n0 (Nat.le_of_ble_eq_true hle) (F.All.imp (fun y p => ?_) hb2)
    · intro S2 H2 x d Ra Rn r2 re2 rv hf
      simp only [] at hf
      split at hf
      · rename_i e1 ea
        refine ⟨S2, wip e own, h, d, e1, r2, re2.wip own, rv, ea, fun σ2 re3 df => ⟨(df own (fun i hi => of_decide_eq_true (List.all_eq_true.mp h2 i hi))).trans (wipe_wipe σ own), ?_⟩⟩
        refine ⟨S2, e1, h, r2, re3, F.All.imp (fun y p => ?_) (bnd_all hf)⟩
        cases y with
        | ex c => exact p.elim
        | ok b =>
          intro S3 H3 x3 r3
          cases b with
          | false => exact iteF (A := tE K mg G gc cl (fun _ _ _ => False) elt σ2 H3 Ra) (p S3 H3 x3 r3)
          | true =>
            refine iteT (B := Rn H3) ⟨S3, e1, h, r3, re3.ext r2 x3, F.All.imp (fun y p => ?_) (bnd_all p)⟩
            cases y with
            | ex c => exact p.elim
            | ok v =>
              cases v with
              | d z => exact fun S' H' x' r' w rw' => p S' H' w (x3.trans x') r' rw'
              | r n => exact p.elim
      · exact hf.elim
    · cases y with
      | ok ys => exact fun S' H' x' r' v rv => p S' H' x' r' v rv
      | ex c => exact p
  · exact hb1.elim

/-! ### the induction -/
/-- the arguments, as many as are written -/
def tEsL (K : PySem.W.Frag) (mg : Str → Option Value) (G : Nm) (gc : Gc) (cl : Cl) (E : XK) (n : Nat) (x : Exs) : TA := fun σ H Q => tEs K mg G gc cl E x σ H fun vs H' => vs.length = n → Q vs H'
theorem mEs_st {sc : Scope} : ∀ (es : Exs) (xs : List PySem.Expr), mEs G N es sc xs = true → xs.all notSt = true
  | .nil, xs, h => by
    unfold mEs at h
    split at h
    · rfl
    · cases h
  | .cons e es, xs, h => by
    unfold mEs at h
    split at h
    · rename_i x r
      rw [Bool.and_eq_true, Bool.and_eq_true] at h
      rw [List.all_cons, h.1.1, mEs_st es r h.2]; rfl
    · cases h
theorem Cok.pass {X : Cx} {sc : Scope} {top : Bool} {E : XK} (C : Cok X N sc top E k G gc cl) : Passes (L2.CX X.prog X.w) X E := fun pins σ H s e s' I c => passes_call C.tk (fun _ _ _ _ h => h) pins σ H s e s' I c
mutual
theorem sE0 : ∀ (x : Ex) (G : Nm) (X : Cx) (sc : Scope) (top : Bool) (E : XK) (e : PySem.Expr), Cok X N sc top E k G gc cl → mE G N x sc e = true → PE X e (tE X.K X.mg G gc cl E x)
  | .var i, G, X, sc, top, E, e, C, h => by
    unfold mE at h
    split at h
    · rename_i x pp
      rw [Bool.and_eq_true, Bool.and_eq_true] at h
      obtain ⟨⟨h1, h2⟩, h3⟩ := h
      obtain ⟨d1, d2, _⟩ := nodbg_ok h3
      refine PE.imp (pe_var (i := i) (by rw [C.hN]; exact of_decide_eq_true h1) (by rw [C.hs]; exact vis_ok h2) d1 d2) fun σ H Q q => ?_
      obtain ⟨S, e, h, r, re, hb⟩ := q
      unfold evE at hb
      split at hb
      · rename_i v hv
        have hv' : e[i]? = some (some v) := by
          rw [List.getD_eq_getElem?_getD] at hv
          cases he : e[i]? with
          | none => rw [he] at hv; cases hv
          | some o => rw [he] at hv; simp at hv; rw [hv]
        obtain ⟨w, ew, rw'⟩ := re.sl i v hv'
        exact ⟨w, ew, hb S H (Ext.refl S H) r w rw'⟩
      · exact hb.elim
    · cases h
  | .cst d, G, X, sc, top, E, e, C, h => by
    unfold mE at h
    split at h
    · rename_i c kk pp
      have fin : ∀ {v : V} σ H Q, tE X.K X.mg G gc cl E (.cst d) σ H Q → (∀ K S H, RV K S H d v) → Q v H := fun {v} σ H Q q rv => by
        obtain ⟨S, e, h, r, re, hb⟩ := q
        unfold evE at hb
        exact hb S H (Ext.refl S H) r v (rv X.K S H)
      rcases mC_ok h with ⟨rfl, rfl⟩ | ⟨b, rfl, rfl⟩ | ⟨i, rfl, rfl⟩ | ⟨s, z, rfl, rfl, rfl⟩
      · exact PE.imp pe_non fun σ H Q q => fin σ H Q q fun _ _ _ => by unfold RV; rfl
      · exact PE.imp pe_bl fun σ H Q q => fin σ H Q q fun _ _ _ => by unfold RV; rfl
      · exact PE.imp pe_int fun σ H Q q => fin σ H Q q fun _ _ _ => by unfold RV; rfl
      · exact PE.imp pe_str fun σ H Q q => fin σ H Q q fun _ _ _ => by unfold RV; rfl
    · cases h
  | .glo g, G, X, sc, top, E, e, C, h => by
    unfold mE at h
    split at h
    · rename_i x pp
      simp only [Bool.and_eq_true, decide_eq_true_eq] at h
      obtain ⟨⟨⟨h1, h2⟩, h3⟩, h4⟩ := h
      obtain ⟨a, ga, rv⟩ := C.W.glo g h1
      rw [h2] at ga
      refine PE.imp (pe_glob (v := .ref a) (C.gl h3) ga rfl (nodbg_ok h4).1) fun σ H Q q => ?_
      obtain ⟨S, e, h, r, re, hb⟩ := q
      unfold evE at hb
      exact hb S H (Ext.refl S H) r _ (rv S H)
    · cases h
  | .tup es, G, X, sc, top, E, e, C, h => by
    unfold mE at h
    split at h
    · rename_i xs kk pp
      refine PE.imp (pe_tup (sEs0 es G X sc top E xs C h)) fun σ H Q q => ?_
      obtain ⟨S, e, h, r, re, hb⟩ := q
      unfold evE at hb
      refine stepEs r re hb fun a S1 H1 v x1 r1 re1 ra hb1 hl => ?_
      obtain ⟨z, ez, dl⟩ := lfD_ok hb1
      obtain ⟨ds, ed, rfl⟩ := Option.map_eq_some_iff.mp ez
      unfold dats at ed
      split at ed
      · rename_i hle
        have q1 := dats_ok ed ra
        refine ⟨?_, dl.tup r1 q1⟩
        rw [ra.length]
        have := Nat.le_of_ble_eq_true hle
        rw [sizeLine_eq]; omega
      · cases ed
    · cases h
  | .lst es, G, X, sc, top, E, e, C, h => by
    unfold mE at h
    split at h
    · rename_i xs pp
      refine PE.imp (pe_lst (sEs0 es G X sc top E xs C h)) fun σ H Q q => ?_
      obtain ⟨S, e, h, r, re, hb⟩ := q
      unfold evE at hb
      refine stepEs r re hb fun a S1 H1 v x1 r1 re1 ra hb1 hl => ?_
      obtain ⟨z, ez, dl⟩ := lfD_ok hb1
      obtain ⟨ds, ed, rfl⟩ := Option.map_eq_some_iff.mp ez
      unfold dats at ed
      split at ed
      · rename_i hle
        have q1 := dats_ok ed ra
        refine ⟨?_, dl.lst r1 q1⟩
        rw [ra.length]
        have := Nat.le_of_ble_eq_true hle
        rw [sizeLine_eq]; omega
      · cases ed
    · cases h
  | .bop o a b, G, X, sc, top, E, e, C, h => by
    unfold mE at h
    split at h
    · rename_i l op rr pp
      rw [Bool.and_eq_true, Bool.and_eq_true] at h
      refine PE.imp (pe_op (opOf C h.1.1) (sE0 a G X sc top E l C h.1.2) (sE0 b G X sc top E rr C h.2)) fun σ H Q q => ?_
      obtain ⟨S, e, h, r, re, hb⟩ := q
      unfold evE at hb
      refine stepE r re hb fun a S1 H1 v x1 r1 re1 ra hb1 => stepE r1 re1 hb1 fun b S2 H2 w x2 r2 re2 rb hb2 => ?_
      exact op2_ok r2 (RW.ext r1 x2 a v ra) rb hb2
    · cases h
  | .neg a, G, X, sc, top, E, e, C, h => by
    unfold mE at h
    split at h
    · rename_i y pp
      refine PE.imp (pe_un un_neg (sE0 a G X sc top E y C h)) fun σ H Q q => ?_
      obtain ⟨S, e, h, r, re, hb⟩ := q
      unfold evE at hb
      refine stepE r re hb fun a S1 H1 v x1 r1 re1 ra hb1 => ?_
      split at hb1
      · rename_i i
        exact ⟨i, (by have := ra; unfold RW RV at this; exact this), (okD hb1).int r1⟩
      · exact hb1.elim
    · cases h
  | .cmp o a b, G, X, sc, top, E, e, C, h => by
    unfold mE at h
    split at h
    · rename_i l op rr pp
      simp only [Bool.and_eq_true] at h
      obtain ⟨⟨⟨h1, h2⟩, h3⟩, h4⟩ := h
      refine PE.imp (pe_cmpR (copOf C h1) (sE0 a G X sc top E l C h3) (sE0 b G X sc top E rr C h4) (nomarkS h2)) fun σ H Q q => ?_
      obtain ⟨S, e, h, r, re, hb⟩ := q
      unfold evE at hb
      refine stepE r re hb fun a S1 H1 v x1 r1 re1 ra hb1 => stepE r1 re1 hb1 fun b S2 H2 w x2 r2 re2 rb hb2 => ?_
      exact op2_ok r2 (RW.ext r1 x2 a v ra) rb hb2
    · cases h
  | .chn o p a b c, G, X, sc, top, E, e, C, h => by
    unfold mE at h
    split at h
    · rename_i l op op' rr rr' pp
      simp only [Bool.and_eq_true] at h
      obtain ⟨⟨⟨⟨⟨⟨h1, h2⟩, h3⟩, h4⟩, h5⟩, h6⟩, h7⟩ := h
      refine PE.imp (pe_chain (copOf C h1) (copOf C h2) (sE0 a G X sc top E l C h5) (sE0 b G X sc top E rr C h6) (sE0 c G X sc top E rr' C h7) (nomarkS h4)) fun σ H Q q => ?_
      obtain ⟨S, e, h, r, re, hb⟩ := q
      unfold evE at hb
      exact chn_ok r re hb
    · cases h
  | .and a b, G, X, sc, top, E, e, C, h => by
    unfold mE at h
    split at h
    · rename_i l rr rest pp
      rw [Bool.and_eq_true] at h
      have hb2 : PE X (.BoolOp .And (rr :: rest) pp) (tE X.K X.mg G gc cl E b) := by
        have h2 := h.2
        split at h2
        · exact pe_one (sE0 b G X sc top E rr C h2)
        · exact sE0 b G X sc top E _ C h2
      refine PE.imp (pe_and (sE0 a G X sc top E l C h.1) hb2) fun σ H Q q => ?_
      obtain ⟨S, e, h, r, re, hb⟩ := q
      unfold evE at hb
      refine stepE r re hb fun a S1 H1 v x1 r1 re1 ra hb1 => ?_
      split at hb1
      · exact ⟨true, (by have := ra; unfold RW RV at this; exact this), iteT ⟨S1, e, h, r1, re1, hb1⟩⟩
      · exact ⟨false, (by have := ra; unfold RW RV at this; exact this), iteF ((okD hb1).bl r1)⟩
      · exact hb1.elim
    · cases h
  | .or a b, G, X, sc, top, E, e, C, h => by
    unfold mE at h
    split at h
    · rename_i l rr rest pp
      rw [Bool.and_eq_true] at h
      have hb2 : PE X (.BoolOp .Or (rr :: rest) pp) (tE X.K X.mg G gc cl E b) := by
        have h2 := h.2
        split at h2
        · exact pe_one (sE0 b G X sc top E rr C h2)
        · exact sE0 b G X sc top E _ C h2
      refine PE.imp (pe_or (sE0 a G X sc top E l C h.1) hb2) fun σ H Q q => ?_
      obtain ⟨S, e, h, r, re, hb⟩ := q
      unfold evE at hb
      refine stepE r re hb fun a S1 H1 v x1 r1 re1 ra hb1 => ?_
      split at hb1
      · exact ⟨false, (by have := ra; unfold RW RV at this; exact this), iteF ⟨S1, e, h, r1, re1, hb1⟩⟩
      · exact ⟨true, (by have := ra; unfold RW RV at this; exact this), iteT ((okD hb1).bl r1)⟩
      · exact hb1.elim
    · cases h
  | .not a, G, X, sc, top, E, e, C, h => by
    unfold mE at h
    split at h
    · rename_i y pp
      refine PE.imp (pe_not (sE0 a G X sc top E y C h)) fun σ H Q q => ?_
      obtain ⟨S, e, h, r, re, hb⟩ := q
      unfold evE at hb
      refine stepE r re hb fun a S1 H1 v x1 r1 re1 ra hb1 => ?_
      split at hb1
      · rename_i c
        exact ⟨c, (by have := ra; unfold RW RV at this; exact this), (okD hb1).bl r1⟩
      · exact hb1.elim
    · cases h
  | .ite c a b, G, X, sc, top, E, e, C, h => by
    unfold mE at h
    split at h
    · rename_i t y z pp
      rw [Bool.and_eq_true, Bool.and_eq_true] at h
      refine PE.imp (pe_ifExp (sT0 c G X sc top E t C h.1.1) (sE0 a G X sc top E y C h.1.2) (sE0 b G X sc top E z C h.2)) fun σ H Q q => ?_
      obtain ⟨S, e, h, r, re, hb⟩ := q
      unfold evE at hb
      refine stepT r re hb fun a S1 H1 x1 r1 re1 hb1 => ?_
      cases a with
      | true => exact iteT ⟨S1, e, h, r1, re1, hb1⟩
      | false => exact iteF ⟨S1, e, h, r1, re1, hb1⟩
    · cases h
  | .sub a i, G, X, sc, top, E, e, C, h => by
    unfold mE at h
    split at h
    · rename_i y s pp
      rw [Bool.and_eq_true, Bool.and_eq_true] at h
      refine PE.imp (pe_ix iR_sub (sE0 a G X sc top E y C h.1.2) (sE0 i G X sc top E s C h.2) (plainIx h.1.1)) fun σ H Q q => ?_
      obtain ⟨S, e, h, r, re, hb⟩ := q
      unfold evE at hb
      refine stepE r re hb fun a S1 H1 v x1 r1 re1 ra hb1 => stepE r1 re1 hb1 fun b S2 H2 w x2 r2 re2 rb hb2 => ?_
      exact op2_ok r2 (RW.ext r1 x2 a v ra) rb hb2
    · cases h
  | .slc a lo hi, G, X, sc, top, E, e, C, h => by
    unfold mE at h
    split at h
    · rename_i y l u p2 pp
      rw [Bool.and_eq_true, Bool.and_eq_true] at h
      refine PE.imp (pe_slice sR_slc (sE0 a G X sc top E y C h.1.1) (sO0 lo G X sc top E l C h.1.2) (sO0 hi G X sc top E u C h.2)) fun σ H Q q => ?_
      obtain ⟨S, e, h, r, re, hb⟩ := q
      unfold evE at hb
      refine stepE r re hb fun a S1 H1 v x1 r1 re1 ra hb1 => stepO r1 re1 hb1 fun b S2 H2 x2 r2 re2 hb2 => stepO r2 re2 hb2 fun c S3 H3 x3 r3 re3 hb3 => ?_
      split at hb3
      · rename_i p ep
        obtain ⟨z, ez, dl⟩ := lfD_ok hb3
        exact ⟨S3, h, a, p, z, r3, RW.ext r1 (x2.trans x3) a v ra, ep, ez, dl⟩
      · exact hb3.elim
    · cases h
  | .cal f es, G, X, sc, top, E, e, C, h => by
    unfold mE at h
    split at h
    · rename_i x p1 xs pp
      simp only [Bool.and_eq_true, decide_eq_true_eq] at h
      obtain ⟨⟨⟨⟨⟨h1, h2⟩, h3⟩, h4⟩, h5⟩, h6⟩ := h
      obtain ⟨fa, fd, ga, kp, b, _, F⟩ := C.W.fn f h1
      rw [h2] at ga
      have fin : ∀ σ H Q, tE X.K X.mg G gc cl E (.cal f es) σ H Q → tEsL X.K X.mg G gc cl E xs.length es σ H fun vs H1 => spC X.K X.mg G cl f (vs ++ []) H1 Q E := fun σ H Q q => by
        obtain ⟨S, e, h, r, re, hb⟩ := q
        unfold evE at hb
        refine stepEs r re hb fun a S1 H1 v x1 r1 re1 ra hb1 hl => ?_
        split at hb1
        · rename_i ds ed
          rw [List.append_nil]
          exact spC_of r1 ra ed (by rw [h5]; exact hl) hb1
        · exact hb1.elim
      have pa := sEs0 es G X sc top E xs C h6
      cases xs with
      | nil =>
        refine PE.imp (pe_call0 F C.room (C.gl h3) ga kp b .nil C.pass (nodbg_ok h4).1) fun σ H Q q => ?_
        have q2 := fin σ H Q q
        obtain ⟨S, e, h, r, re, hb⟩ := q2
        cases es with
        | nil =>
          unfold evEs at hb
          exact hb S H (Ext.refl S H) r [] rfl rfl
        | cons => simp [mEs] at h6
      | cons y ys =>
        have hst := mEs_st es (y :: ys) h6
        rw [List.all_cons, Bool.and_eq_true] at hst
        exact PE.imp (pe_call F C.room (C.gl h3) ga kp b .nil C.pass pa (nodbg_ok h4).1 (star_cons hst.1) (star_any hst.2)) fun σ H Q q => fin σ H Q q
    · cases h
  | .cak f es ks, G, X, sc, top, E, e, C, h => by
    unfold mE at h
    split at h
    · rename_i x p1 xs kws pp
      simp only [Bool.and_eq_true, decide_eq_true_eq] at h
      obtain ⟨⟨⟨⟨⟨⟨⟨⟨h1, h2⟩, h3⟩, h4⟩, h5⟩, h6⟩, h9⟩, h7⟩, h8⟩ := h
      obtain ⟨fa, fd, ga, kp, _, b, F⟩ := C.W.fn f h1
      replace b := b h9
      rw [h2] at ga
      have fin : ∀ σ H Q, tE X.K X.mg G gc cl E (.cak f es ks) σ H Q → tEsL X.K X.mg G gc cl E xs.length es σ H fun vs H1 => vs.length = xs.length ∧ tEsL X.K X.mg G gc cl E kws.length ks σ H1 fun zs H2 => spC X.K X.mg G cl f (vs ++ zs) H2 Q E := fun σ H Q q => by
        obtain ⟨S, e, h, r, re, hb⟩ := q
        unfold evE at hb
        refine stepEs r re hb fun a S1 H1 v x1 r1 re1 ra hb1 hl => ⟨hl, stepEs r1 re1 hb1 fun b S2 H2 w x2 r2 re2 rb hb2 hl2 => ?_⟩
        split at hb2
        · rename_i ds ed
          exact spC_of r2 ((RWs.ext r1 x2 a v ra).append rb) ed (by rw [h6, List.length_append, hl, hl2]) hb2
        · exact hb2.elim
      have pa := sEs0 es G X sc top E xs C h7
      have pk := sKs0 ks G X sc top E kws C h8
      cases xs with
      | nil =>
        refine PE.imp (pe_callKS0 F C.room (C.gl h3) ga kp b C.pass (by rw [h5]; rfl) (nodbg_ok h4).1 pk) fun σ H Q q => ?_
        have q2 := fin σ H Q q
        obtain ⟨S, e, h, r, re, hb⟩ := q2
        cases es with
        | nil =>
          unfold evEs at hb
          exact (hb S H (Ext.refl S H) r [] rfl rfl).2
        | cons => simp [mEs] at h7
      | cons y ys => exact PE.imp (pe_callKS F C.room (C.gl h3) ga kp b C.pass (mEs_st es (y :: ys) h7) h5 (nodbg_ok h4).1 pa pk) fun σ H Q q => fin σ H Q q
    · cases h
  | .blt b es, G, X, sc, top, E, e, C, h => by
    unfold mE at h
    split at h
    · rename_i x p1 y xs pp
      simp only [Bool.and_eq_true, decide_eq_true_eq] at h
      obtain ⟨⟨h1, h2⟩, h3⟩ := h
      have hst := mEs_st es (y :: xs) h3
      rw [List.all_cons, Bool.and_eq_true] at hst
      have pa := sEs0 es G X sc top E (y :: xs) C h3
      have pe : PE X (.Call (.Name x p1) (y :: xs) [] pp) (tCB (rBl X.K (bltD b)) (tEsL X.K X.mg G gc cl E (y :: xs).length es)) := blt_ok C h1 h2 hst pa
      refine PE.imp pe fun σ H Q q => ?_
      obtain ⟨S, e, h, r, re, hb⟩ := q
      unfold evE at hb
      refine stepEs r re hb fun a S1 H1 v x1 r1 re1 ra hb1 hl => ?_
      split at hb1
      · rename_i ds ed
        obtain ⟨z, ez, dl⟩ := lfD_ok hb1
        exact ⟨S1, h, a, ds, z, r1, ra, ed, ez, dl⟩
      · exact hb1.elim
    · cases h
  | .mth m o a, G, X, sc, top, E, e, C, h => by
    unfold mE at h
    split at h
    · rename_i x kk ap y pp
      simp only [Bool.and_eq_true, decide_eq_true_eq] at h
      obtain ⟨⟨⟨⟨⟨⟨h1, h2⟩, h3⟩, _⟩, h4⟩, h5⟩, h6⟩ := h
      have pe : PE X (.Call (.Attribute x kk ap) [y] [] pp) (tM1 (rMt X.K (mthD m)) (tE X.K X.mg G gc cl E o) (tE X.K X.mg G gc cl E a)) := by
        subst h1
        cases m with
        | join => exact pe_m1 F.slot_str_join F.type_str_join mR_join (sE0 o G X sc top E x C h5) (sE0 a G X sc top E y C h6) (star_cons h3) (attrBase h4) h2
        | split => exact pe_m1 F.slot_str_split F.type_str_split mR_split (sE0 o G X sc top E x C h5) (sE0 a G X sc top E y C h6) (star_cons h3) (attrBase h4) h2
      refine PE.imp pe fun σ H Q q => ?_
      obtain ⟨S, e, h, r, re, hb⟩ := q
      unfold evE at hb
      refine stepE r re hb fun a S1 H1 v x1 r1 re1 ra hb1 => ?_
      split at hb1
      · rename_i s
        refine ⟨⟨⟨s.toArray⟩, (by have := ra; unfold RW RV at this; exact this)⟩, stepE r1 re1 hb1 fun b S2 H2 w x2 r2 re2 rb hb2 => ?_⟩
        exact ⟨w, rfl, op2_ok r2 (RW.ext r1 x2 _ v ra) rb hb2⟩
      · exact hb1.elim
    · cases h
  | .sst a, G, X, sc, top, E, e, C, h => by
    unfold mE at h
    split at h
    · rename_i x p1 z p2 y p3 pp
      simp only [Bool.and_eq_true, decide_eq_true_eq] at h
      obtain ⟨⟨⟨⟨⟨h1, h2⟩, h3⟩, h4⟩, h5⟩, h6⟩ := h
      subst h1 h3
      refine PE.imp (pe_callB (cr_sortedT C.calm) (C.gl h2) (C.free (by decide)) boot_sorted (pa_cons (pe_callTy (cr_setOfT C.calm C.room.units) (C.gl h4) (C.free (by decide)) boot_set (pa_cons (sE0 a G X sc top E y C h6) pa_nil (star_cons h5)) (by decide) (by decide) (star_cons h5) rfl) pa_nil) (by decide) (by decide) rfl rfl) fun σ H Q q => ?_
      obtain ⟨S, e, h, r, re, hb⟩ := q
      unfold evE at hb
      refine stepE r re hb fun a S1 H1 v x1 r1 re1 ra hb1 => ?_
      split at hb1
      · rename_i p ep
        obtain ⟨zz, ez, dl⟩ := lfD_ok hb1
        exact sst_ok r1 ra ep ez dl
      · exact hb1.elim
    · cases h
  | .res x, G, X, sc, top, E, e, C, h => by
    unfold mE at h
    split at h
    · rename_i f p1 ps bd lsc p2 pp
      simp only [Bool.and_eq_true, decide_eq_true_eq] at h
      obtain ⟨⟨⟨⟨⟨⟨h1, h2⟩, h3⟩, h4⟩, h5⟩, h6⟩, h7⟩ := h
      subst h3
      obtain ⟨⟨g, oc, od, pg, bg, dV, kV, doc, pm, an, cdv, ct, osl, m1, m2, m3, m4, m5, m6⟩, hcls⟩ := C.W.res h1
      obtain ⟨c, P, tB, hcode, hmem⟩ := C.lam h2
      have hr2 := C.room2 h2
      have hpl : ps = ⟨[], [], none, [], [], none, []⟩ := by
        obtain ⟨a1, a2, a3, a4, a5, a6, a7⟩ := ps
        unfold noPar at h5
        simp only [Bool.and_eq_true, List.isEmpty_iff, Option.isNone_iff_eq_none] at h5
        obtain ⟨⟨⟨⟨⟨⟨rfl, rfl⟩, rfl⟩, rfl⟩, rfl⟩, rfl⟩, rfl⟩ := h5
        rfl
      subst hpl
      refine PE.imp (LamX.pe_lamcall (T := tbl X.K) (TT := TRes X.K) (k := 3 * k) (t := fun E' => tE X.K X.mg G gc cl E' x) (C.gl h4) m1 m2 m3 m4 m5 (Ng := resN) (scB_res) rfl (.inl rfl)
        (m6 X rfl rfl rfl rfl rfl (fun e => hu_of (hr2.mono (Nat.le_succ _) |>.deeper e)) _) tB hcode hmem (fun p hp e => C.W.tun p hp _ hmem e) hr2 (by rw [C.hs]; exact LamX.lamS_by h6) rfl (fun _ _ _ _ _ => rfl)
        (fun A outer s H E' f c' hr3 => sE0 x { G with lm := false } (LamX.lamCx X A outer s H E' lsc f c') lsc false E' bd ⟨C.hN, C.nd, rfl, rfl, hr3, (fun z => nomatch z), (fun z => nomatch z), takes_of rfl rfl rfl rfl, (fun z => nomatch z), C.W.lm⟩ h7)) fun σ H Q q => ?_
      obtain ⟨S, e, h, r, re, hb⟩ := q
      refine ⟨r.tab, fun H1 xn ht H2 xm E' Q' hE hQ => ?_⟩
      have kk : ∀ a o, H a = some o → NT o → H2 a = some o := fun a o e n => xm a o (xn a o e n)
      have x2 : Ext S H S H2 := ext_more kk
      have r2 : RelH X.K S H2 h := r.more kk (ht.ext xm)
      unfold evE at hb
      refine ⟨S, e, h, r2, re.ext r x2, F.All.imp (fun y p => ?_) (F.All_bind.mp hb)⟩
      cases y with
      | ok a =>
        cases a with
        | r n => exact p.elim
        | d d =>
          intro S' H' x' r' v rv
          refine hQ v H' fun pp hp => ?_
          refine p S' _ ((x2.trans x').trans (ext_new hp)) (r'.new hp) _ ?_
          show RV _ _ _ _ _
          unfold RV
          exact ⟨pp, [.str "returns", v], rfl, .inl (.inl upd_same), .cons (by unfold RV; kernel_rfl) (.cons (RV.ext r' (ext_new hp) d v rv) .nil)⟩
      | ex cn =>
        intro S' H' x' r' Cc hC
        have p : (match exNm cn with
          | some (_, s) => ok (.d (.tup [.str s]))
          | none => .stk : M Vv).All (Po X.K X.mg G S H h (qV X.K Q) E) := p
        split at p
        · rename_i i s hs
          obtain ⟨nm, g1, g2, g3, g4⟩ := hcls cn i s hs Cc hC
          refine hE _ _ _ ⟨i, nm, G.enm cn, g1, by rw [g3], rfl, g4, fun H'' pp k2 hp ht2 => ?_⟩
          have x3 : Ext S' H' S' H'' := ext_more fun a o e _ => k2 a o e
          refine p S' _ ((x2.trans x').trans x3) (r'.more (fun a o e _ => k2 a o e) (r'.tab.ext k2)) _ ?_
          show RV _ _ _ _ _
          unfold RV
          exact ⟨pp, [.str nm], rfl, .inl (.inl ht2), .cons (by unfold RV; rw [g2]) .nil⟩
        · exact p.elim
    · cases h
  | .isi t a, G, X, sc, top, E, e, C, h => by
    unfold mE at h
    split at h
    · rename_i x p1 y z p2 pp
      simp only [Bool.and_eq_true, decide_eq_true_eq] at h
      obtain ⟨⟨⟨⟨⟨h1, h2⟩, h3⟩, h4⟩, h5⟩, h6⟩ := h
      subst h1 h3
      have pt : PE X (.Name (Str.ofString (ityS t)) p2) (tC (.ty (ityS t))) := ity_pe C h4
      refine PE.imp (pe_callB call_isi (C.gl h2) (C.free (by decide)) boot_isinstance (pa_cons (sE0 a G X sc top E y C h6) (pa_cons pt pa_nil) (star_cons h5)) (by decide) (by decide) (star_cons h5) rfl) fun σ H Q q => ?_
      obtain ⟨S, e, h, r, re, hb⟩ := q
      unfold evE at hb
      refine stepE r re hb fun a S1 H1 v x1 r1 re1 ra hb1 => ?_
      split at hb1
      · rename_i p ep
        obtain ⟨zz, ez, dl⟩ := lfD_ok hb1
        obtain ⟨b, eb, rfl⟩ := Option.map_eq_some_iff.mp ez
        refine ⟨v, .ty (ityS t), _, _, b, rfl, .ty _, ra.tyX r1 ep (fun n e2 => ?_), kit_ty (ity_kit t p b eb), dl.bl r1⟩
        subst e2
        cases t <;> simp [ityD] at eb
      · exact hb1.elim
    · cases h
  | .cmp1 elt tg it own, G, X, sc, top, E, e, C, h => by
    unfold mE at h
    split at h
    · rename_i x t iter scope pp
      simp only [Bool.and_eq_true] at h
      obtain ⟨⟨⟨⟨⟨h1, h2⟩, h3⟩, h4⟩, h5⟩, h6⟩ := h
      have hN : X.N.Nodup := by rw [C.hN]; exact C.nd
      have bo : BlkOk X.N X.env.scope scope (ownN N own) := by
        rw [C.hN, C.hs]; exact blkOk_by h1
      refine PE.imp (pe_lc (own := ownN N own) (g := gT X.K tg) (tt := tYes) (te := tE X.K X.mg G gc cl (fun _ _ _ => False) elt) C.calm hN (sI0 it G X sc top E t iter C h5) bo
        (fun s H Cc cl' fp => sTg (C.blk s H scope cl' Cc fp) tg t h4) (fun _ _ _ _ _ => pts_nil) (fun s H Cc cl' fp => sE0 elt _ _ _ _ _ x (C.blk s H scope cl' Cc fp) h6) (folded h3)) fun σ H Q q => (by rw [ownN_map]; exact lc1_imp h2 q)
    · cases h
  | .cmpc elt tg it c own, G, X, sc, top, E, e, C, h => by
    unfold mE at h
    split at h
    · rename_i x t iter cd scope pp
      simp only [Bool.and_eq_true] at h
      obtain ⟨⟨⟨⟨⟨⟨h1, h2⟩, h3⟩, h4⟩, h5⟩, h7⟩, h6⟩ := h
      have hN : X.N.Nodup := by rw [C.hN]; exact C.nd
      have bo : BlkOk X.N X.env.scope scope (ownN N own) := by
        rw [C.hN, C.hs]; exact blkOk_by h1
      refine PE.imp (pe_lc (own := ownN N own) (g := gT X.K tg) (tt := tT X.K X.mg G gc cl (fun _ _ _ => False) c) (te := tE X.K X.mg G gc cl (fun _ _ _ => False) elt) C.calm hN (sI0 it G X sc top E t iter C h5) bo
        (fun s H Cc cl' fp => sTg (C.blk s H scope cl' Cc fp) tg t h4) (fun s H Cc cl' fp => pts_one (sT0 c _ _ _ _ _ cd (C.blk s H scope cl' Cc fp) h7)) (fun s H Cc cl' fp => sE0 elt _ _ _ _ _ x (C.blk s H scope cl' Cc fp) h6) (folded h3)) fun σ H Q q => (by rw [ownN_map]; exact lcc_imp h2 q)
    · cases h
theorem sEs0 : ∀ (x : Exs) (G : Nm) (X : Cx) (sc : Scope) (top : Bool) (E : XK) (es : List PySem.Expr), Cok X N sc top E k G gc cl → mEs G N x sc es = true → PA X es (tEsL X.K X.mg G gc cl E es.length x)
  | .nil, G, X, sc, top, E, es, C, h => by
    unfold mEs at h
    split at h
    · refine PA.imp pa_nil fun σ H Q q => ?_
      obtain ⟨S, e, h, r, re, hb⟩ := q
      unfold evEs at hb
      exact hb S H (Ext.refl S H) r [] rfl rfl
    · cases h
  | .cons x xs, G, X, sc, top, E, es, C, h => by
    unfold mEs at h
    split at h
    · rename_i y ys
      rw [Bool.and_eq_true, Bool.and_eq_true] at h
      refine PA.imp (pa_cons (sE0 x G X sc top E y C h.1.2) (sEs0 xs G X sc top E ys C h.2) (star_cons h.1.1)) fun σ H Q q => ?_
      obtain ⟨S, e, h, r, re, hb⟩ := q
      unfold evEs at hb
      refine stepE r re hb fun a S1 H1 v x1 r1 re1 ra hb1 => stepEs r1 re1 hb1 fun as S2 H2 vs x2 r2 re2 ras hb2 hl => ?_
      exact hb2 S2 H2 (Ext.refl S2 H2) r2 (v :: vs) ⟨v, vs, rfl, RW.ext r1 x2 a v ra, ras⟩ (by rw [List.length_cons, List.length_cons, hl])
    · cases h
theorem sKs0 : ∀ (x : Exs) (G : Nm) (X : Cx) (sc : Scope) (top : Bool) (E : XK) (es : List Keyword), Cok X N sc top E k G gc cl → mKs G N x sc es = true → PK X es (tEsL X.K X.mg G gc cl E es.length x)
  | .nil, G, X, sc, top, E, es, C, h => by
    unfold mKs at h
    split at h
    · refine PK.imp pk_nil fun σ H Q q => ?_
      obtain ⟨S, e, h, r, re, hb⟩ := q
      unfold evEs at hb
      exact hb S H (Ext.refl S H) r [] rfl rfl
    · cases h
  | .cons x xs, G, X, sc, top, E, es, C, h => by
    unfold mKs at h
    split at h
    · rename_i y ys
      obtain ⟨yn, yv, yp⟩ := y
      rw [Bool.and_eq_true, Bool.and_eq_true] at h
      refine PK.imp (pk_cons (nm := yn) (kpos := yp) (sE0 x G X sc top E yv C h.1.2) (sKs0 xs G X sc top E ys C h.2)) fun σ H Q q => ?_
      obtain ⟨S, e, h, r, re, hb⟩ := q
      unfold evEs at hb
      refine stepE r re hb fun a S1 H1 v x1 r1 re1 ra hb1 => stepEs r1 re1 hb1 fun as S2 H2 vs x2 r2 re2 ras hb2 hl => ?_
      exact hb2 S2 H2 (Ext.refl S2 H2) r2 (v :: vs) ⟨v, vs, rfl, RW.ext r1 x2 a v ra, ras⟩ (by rw [List.length_cons, List.length_cons, hl])
    · cases h
theorem sO0 : ∀ (x : Ox) (G : Nm) (X : Cx) (sc : Scope) (top : Bool) (E : XK) (e : Option PySem.Expr), Cok X N sc top E k G gc cl → mO G N x sc e = true → PO X e (tO X.K X.mg G gc cl E x)
  | .no, G, X, sc, top, E, e, C, h => by
    unfold mO at h
    split at h
    · refine PO.imp po_none fun σ H Q q => ?_
      obtain ⟨S, e, h, r, re, hb⟩ := q
      unfold evO at hb
      exact hb S H (Ext.refl S H) r
    · cases h
  | .so x, G, X, sc, top, E, e, C, h => by
    unfold mO at h
    split at h
    · rename_i y
      refine PO.imp (po_some (sE0 x G X sc top E y C h)) fun σ H Q q => ?_
      obtain ⟨S, e, h, r, re, hb⟩ := q
      unfold evO at hb
      refine stepE r re hb fun a S1 H1 v x1 r1 re1 ra hb1 => ?_
      split at hb1
      · rename_i i
        exact ⟨i, (by have := ra; unfold RW RV at this; exact this), hb1 S1 H1 (Ext.refl S1 H1) r1⟩
      · exact hb1.elim
    · cases h
theorem sT0 : ∀ (x : Tx) (G : Nm) (X : Cx) (sc : Scope) (top : Bool) (E : XK) (e : PySem.Expr), Cok X N sc top E k G gc cl → mT G N x sc e = true → PT X e (tT X.K X.mg G gc cl E x)
  | .val (.cmp o a b), G, X, sc, top, E, e, C, h => by
    unfold mT at h
    rw [Bool.and_eq_true] at h
    obtain ⟨l, op, rr, pp, rfl, h1, h2, h3, h4⟩ := inv_cmp h.2
    refine PT.imp (pt_cmpR (copOf C h1) (sE0 a G X sc top E l C h3) (sE0 b G X sc top E rr C h4) (nomarkS h2)) fun σ H Q q => ?_
    obtain ⟨S, e, h, r, re, hb⟩ := q
    unfold evT evE at hb
    exact cmpT_ok r re hb
  | .val (.chn o p a b c), G, X, sc, top, E, e, C, h => by
    unfold mT at h
    rw [Bool.and_eq_true] at h
    obtain ⟨l, op, op', rr, rr', pp, rfl, h1, h2, h4, h5, h6, h7⟩ := inv_chn h.2
    refine PT.imp (pt_chain (copOf C h1) (copOf C h2) (sE0 a G X sc top E l C h5) (sE0 b G X sc top E rr C h6) (sE0 c G X sc top E rr' C h7) (nomarkS h4)) fun σ H Q q => ?_
    obtain ⟨S, e, h, r, re, hb⟩ := q
    unfold evT evE at hb
    exact chnT_ok r re hb
  | .val (.var i), G, X, sc, top, E, e, C, h => sTv rfl h fun h2 => sE0 (.var i) G X sc top E e C h2
  | .val (.cst d), G, X, sc, top, E, e, C, h => sTv rfl h fun h2 => sE0 (.cst d) G X sc top E e C h2
  | .val (.glo g), G, X, sc, top, E, e, C, h => sTv rfl h fun h2 => sE0 (.glo g) G X sc top E e C h2
  | .val (.tup es), G, X, sc, top, E, e, C, h => sTv rfl h fun h2 => sE0 (.tup es) G X sc top E e C h2
  | .val (.lst es), G, X, sc, top, E, e, C, h => sTv rfl h fun h2 => sE0 (.lst es) G X sc top E e C h2
  | .val (.bop o a b), G, X, sc, top, E, e, C, h => sTv rfl h fun h2 => sE0 (.bop o a b) G X sc top E e C h2
  | .val (.neg a), G, X, sc, top, E, e, C, h => sTv rfl h fun h2 => sE0 (.neg a) G X sc top E e C h2
  | .val (.and a b), G, X, sc, top, E, e, C, h => sTv rfl h fun h2 => sE0 (.and a b) G X sc top E e C h2
  | .val (.or a b), G, X, sc, top, E, e, C, h => sTv rfl h fun h2 => sE0 (.or a b) G X sc top E e C h2
  | .val (.not a), G, X, sc, top, E, e, C, h => sTv rfl h fun h2 => sE0 (.not a) G X sc top E e C h2
  | .val (.ite c a b), G, X, sc, top, E, e, C, h => sTv rfl h fun h2 => sE0 (.ite c a b) G X sc top E e C h2
  | .val (.sub a i), G, X, sc, top, E, e, C, h => sTv rfl h fun h2 => sE0 (.sub a i) G X sc top E e C h2
  | .val (.slc a lo hi), G, X, sc, top, E, e, C, h => sTv rfl h fun h2 => sE0 (.slc a lo hi) G X sc top E e C h2
  | .val (.cal f es), G, X, sc, top, E, e, C, h => sTv rfl h fun h2 => sE0 (.cal f es) G X sc top E e C h2
  | .val (.cak f es ks), G, X, sc, top, E, e, C, h => sTv rfl h fun h2 => sE0 (.cak f es ks) G X sc top E e C h2
  | .val (.blt b es), G, X, sc, top, E, e, C, h => sTv rfl h fun h2 => sE0 (.blt b es) G X sc top E e C h2
  | .val (.mth m o a), G, X, sc, top, E, e, C, h => sTv rfl h fun h2 => sE0 (.mth m o a) G X sc top E e C h2
  | .val (.sst a), G, X, sc, top, E, e, C, h => sTv rfl h fun h2 => sE0 (.sst a) G X sc top E e C h2
  | .val (.res a), G, X, sc, top, E, e, C, h => sTv rfl h fun h2 => sE0 (.res a) G X sc top E e C h2
  | .val (.isi t a), G, X, sc, top, E, e, C, h => sTv rfl h fun h2 => sE0 (.isi t a) G X sc top E e C h2
  | .val (.cmp1 elt tg it own), G, X, sc, top, E, e, C, h => sTv rfl h fun h2 => sE0 (.cmp1 elt tg it own) G X sc top E e C h2
  | .val (.cmpc elt tg it c own), G, X, sc, top, E, e, C, h => sTv rfl h fun h2 => sE0 (.cmpc elt tg it c own) G X sc top E e C h2
  | .and a b, G, X, sc, top, E, e, C, h => by
    unfold mT at h
    split at h
    · rename_i l rr rest pp
      rw [Bool.and_eq_true] at h
      exact (andT_ok (sT0 a G X sc top E l C h.1) (by
        have h2 := h.2
        split at h2
        · exact pw_and1 (sT0 b G X sc top E rr C h2)
        · exact pw_of (sT0 b G X sc top E _ C h2))).pt
    · cases h
  | .or a b, G, X, sc, top, E, e, C, h => by
    unfold mT at h
    split at h
    · rename_i l rr rest pp
      rw [Bool.and_eq_true] at h
      exact (orT_ok (sT0 a G X sc top E l C h.1) (by
        have h2 := h.2
        split at h2
        · exact pw_or1 (sT0 b G X sc top E rr C h2)
        · exact pw_of (sT0 b G X sc top E _ C h2))).pt
    · cases h
  | .not a, G, X, sc, top, E, e, C, h => by
    unfold mT at h
    split at h
    · rename_i y pp
      refine PT.imp (pt_not (sT0 a G X sc top E y C h)) fun σ H Q q => ?_
      obtain ⟨S, e, h, r, re, hb⟩ := q
      unfold evT at hb
      refine stepT r re hb fun a S1 H1 x1 r1 re1 hb1 => ?_
      exact hb1 S1 H1 (Ext.refl S1 H1) r1
    · cases h
theorem sI0 : ∀ (x : Ix) (G : Nm) (X : Cx) (sc : Scope) (top : Bool) (E : XK) (tg e : PySem.Expr), Cok X N sc top E k G gc cl → mI G N x sc tg e = true → PI X tg e (tI X.K X.mg G gc cl E x)
  | .seq a, G, X, sc, top, E, tg, e, C, h => by
    unfold mI at h
    refine PI.imp (pi_any (sE0 a G X sc top E e C h)) fun σ H R q => ?_
    obtain ⟨S, e, h, r, re, hb⟩ := q
    unfold evI at hb
    refine stepE r re hb fun a S1 H1 v x1 r1 re1 ra hb1 => ?_
    split at hb1
    · rename_i d
      exact seq_ok r1 ra hb1
    · exact hb1.elim
  | .own i, G, X, sc, top, E, tg, e, C, h => by
    unfold mI at h
    split at h
    · rename_i x pp
      have hv : PE X (.Name x pp) (tE X.K X.mg G gc cl E (.var i)) := sE0 (.var i) G X sc top E (.Name x pp) C (by unfold mE; exact h)
      refine PI.imp (pi_any hv) fun σ H R q => ?_
      obtain ⟨S, e, h, r, re, hb⟩ := q
      unfold evI at hb
      refine ⟨S, e, h, r, re, ?_⟩
      unfold evE
      split at hb
      · rename_i n hn
        rw [hn]
        split at hb
        · rename_i xs hx
          intro S1 H1 x1 r1 v rv
          obtain ⟨a, ea, rfl⟩ := rv
          obtain ⟨b, eb, vs, hv, q⟩ := r1.obj n _ hx
          rw [ea] at eb; cases eb
          exact .inl ⟨a, rfl, ⟨vs, SqL.of hv⟩, hb S1 H1 x1 r1 _ (by
            have := it_own (K := X.K) (H := H1) ea hx
            exact ⟨fun i S2 H2 h2 eq => this.go i S2 H2 h2 (eq rfl), fun S2 H2 h2 eq => this.stop S2 H2 h2 (eq rfl), fun i S2 H2 h2 x H' eq => this.yld i S2 H2 h2 x H' (eq rfl)⟩)⟩
        · exact hb.elim
      · exact hb.elim
    · cases h
  | .enm a, G, X, sc, top, E, tg, e, C, h => by
    unfold mI at h
    split at h
    · split at h
      · rename_i x p1 y pp
        simp only [Bool.and_eq_true, decide_eq_true_eq] at h
        obtain ⟨⟨⟨h1, h2⟩, h3⟩, h4⟩ := h
        subst h1
        refine PI.imp (pi_enumT (C.gl h2) (C.free (by decide)) (pa_cons (sE0 a G X sc top E y C h4) pa_nil (star_cons h3)) (star_cons h3)) fun σ H R q => ?_
        obtain ⟨S, e, h, r, re, hb⟩ := q
        unfold evI at hb
        refine stepE r re hb fun a S1 H1 v x1 r1 re1 ra hb1 => ?_
        split at hb1
        · rename_i ds
          obtain ⟨p, vs, rfl, t, q⟩ := ra.tup r1 rfl
          exact ⟨p, vs, rfl, t, hb1 S1 H1 (Ext.refl S1 H1) r1 _ (it_enm r1 t q)⟩
        · exact hb1.elim
      · cases h
    · cases h
  | .rg1 a, G, X, sc, top, E, tg, e, C, h => by
    unfold mI at h
    split at h
    · rename_i x p1 y pp
      simp only [Bool.and_eq_true, decide_eq_true_eq] at h
      obtain ⟨⟨⟨h1, h2⟩, h3⟩, h4⟩ := h
      subst h1
      refine PI.imp (pi_range1 (C.gl h2) (C.free (by decide)) (pa_cons (sE0 a G X sc top E y C h4) pa_nil (star_cons h3)) (star_cons h3)) fun σ H R q => ?_
      obtain ⟨S, e, h, r, re, hb⟩ := q
      unfold evI at hb
      refine stepE r re hb fun a S1 H1 v x1 r1 re1 ra hb1 => ?_
      split at hb1
      · rename_i i
        have hv : v = .int i := by have := ra; unfold RW RV at this; exact this
        obtain ⟨hl, hb1⟩ := rng_ok hb1
        refine ⟨i, by rw [hv], by omega, by omega, hb1 S1 H1 (Ext.refl S1 H1) r1 _ ?_⟩
        have : (i - 0).toNat = i.toNat := by rw [Int.sub_zero]
        rw [this]
        exact it_rng
      · exact hb1.elim
    · cases h
  | .rg2 a b, G, X, sc, top, E, tg, e, C, h => by
    unfold mI at h
    split at h
    · rename_i x p1 y z pp
      simp only [Bool.and_eq_true, decide_eq_true_eq] at h
      obtain ⟨⟨⟨⟨⟨h1, h2⟩, h3⟩, h4⟩, h5⟩, h6⟩ := h
      subst h1
      refine PI.imp (pi_range2 (C.gl h2) (C.free (by decide)) (pa_cons (sE0 a G X sc top E y C h5) (pa_cons (sE0 b G X sc top E z C h6) pa_nil (star_cons h4)) (star_cons h3)) (by rw [star_cons h3, star_cons h4]; rfl) (by rw [star_cons h4]; rfl)) fun σ H R q => ?_
      obtain ⟨S, e, h, r, re, hb⟩ := q
      unfold evI at hb
      refine stepE r re hb fun a S1 H1 v x1 r1 re1 ra hb1 => stepE r1 re1 hb1 fun b S2 H2 w x2 r2 re2 rb hb2 => ?_
      split at hb2
      · rename_i i j
        have hv : v = .int i := by have := ra; unfold RW RV at this; exact this
        have hw : w = .int j := by have := rb; unfold RW RV at this; exact this
        obtain ⟨hl, hb2⟩ := rng_ok hb2
        exact ⟨i, j, by rw [hv, hw], ⟨by omega, by omega, by omega, by omega⟩, hb2 S2 H2 (Ext.refl S2 H2) r2 _ it_rng⟩
      · exact hb2.elim
    · cases h
  | .rg3 a b c, G, X, sc, top, E, tg, e, C, h => by
    unfold mI at h
    split at h
    · rename_i x p1 y z u pp
      simp only [Bool.and_eq_true, decide_eq_true_eq] at h
      obtain ⟨⟨⟨⟨⟨⟨⟨h1, h2⟩, h3⟩, h4⟩, h5⟩, h6⟩, h7⟩, h8⟩ := h
      subst h1
      refine PI.imp (pi_range3 (C.gl h2) (C.free (by decide)) (pa_cons (sE0 a G X sc top E y C h6) (pa_cons (sE0 b G X sc top E z C h7) (pa_cons (sE0 c G X sc top E u C h8) pa_nil (star_cons h5)) (star_cons h4)) (star_cons h3)) (by rw [star_cons h3, star_cons h4, star_cons h5]) (by rw [star_cons h4, star_cons h5]; rfl)) fun σ H R q => ?_
      obtain ⟨S, e, h, r, re, hb⟩ := q
      unfold evI at hb
      refine stepE r re hb fun a S1 H1 v x1 r1 re1 ra hb1 => stepE r1 re1 hb1 fun b S2 H2 w x2 r2 re2 rb hb2 => stepE r2 re2 hb2 fun c S3 H3 u' x3 r3 re3 rc hb3 => ?_
      split at hb3
      · rename_i i j kk
        have hv : v = .int i := by have := ra; unfold RW RV at this; exact this
        have hw : w = .int j := by have := rb; unfold RW RV at this; exact this
        have hu : u' = .int kk := by have := rc; unfold RW RV at this; exact this
        split at hb3
        · rename_i hk
          subst hk
          obtain ⟨hl, hb3⟩ := rngN_ok hb3
          exact ⟨i, j, -1, (i - j).toNat, by rw [hv, hw, hu], RgC.neg (by omega) (by omega) (by omega) (by omega), hb3 S3 H3 (Ext.refl S3 H3) r3 _ it_rngN⟩
        · exact hb3.elim
      · exact hb3.elim
    · cases h
end
theorem sE (x : Ex) (X : Cx) (sc : Scope) (top : Bool) (E : XK) (e : PySem.Expr) (C : Cok X N sc top E k G gc cl) (h : mE G N x sc e = true) : PE X e (tE X.K X.mg G gc cl E x) := sE0 x G X sc top E e C h
theorem sEs (x : Exs) (X : Cx) (sc : Scope) (top : Bool) (E : XK) (es : List PySem.Expr) (C : Cok X N sc top E k G gc cl) (h : mEs G N x sc es = true) : PA X es (tEsL X.K X.mg G gc cl E es.length x) := sEs0 x G X sc top E es C h
theorem sO (x : Ox) (X : Cx) (sc : Scope) (top : Bool) (E : XK) (e : Option PySem.Expr) (C : Cok X N sc top E k G gc cl) (h : mO G N x sc e = true) : PO X e (tO X.K X.mg G gc cl E x) := sO0 x G X sc top E e C h
theorem sT (x : Tx) (X : Cx) (sc : Scope) (top : Bool) (E : XK) (e : PySem.Expr) (C : Cok X N sc top E k G gc cl) (h : mT G N x sc e = true) : PT X e (tT X.K X.mg G gc cl E x) := sT0 x G X sc top E e C h
theorem sI (x : Ix) (X : Cx) (sc : Scope) (top : Bool) (E : XK) (tg e : PySem.Expr) (C : Cok X N sc top E k G gc cl) (h : mI G N x sc tg e = true) : PI X tg e (tI X.K X.mg G gc cl E x) := sI0 x G X sc top E tg e C h
end
end Bk
/-! BkJ: which text a statement stands for. -/
namespace Bk
open PySem PySem.Spec PyProof.Rows L2

def isFnK (sc : Scope) : Bool := match sc.kind with
  | .function => true
  | _ => false
def isLoc (sc : Scope) (x : Str) : Bool := match sc.names.lookup x with
  | some .local => true
  | _ => false
def isCel (sc : Scope) (x : Str) : Bool := match sc.names.lookup x with
  | some .cell => true
  | _ => false
/-- [..] stored to a name: in one step, or in two -/
def swOk (sc : Scope) (x : Str) (p : Pos) (e : PySem.Expr) : Bool := match e with
  | .ListComp _ _ scope pos => isCel sc x || (isLoc sc x && (p.line == pos.line) && !(scope.names.any fun (n, k) => n == x && (k == .local || k == .cell)))
  | .SetComp .. => false
  | .DictComp .. => false
  | _ => true
def mR (G : Nm) (N : List Str) (sc : Scope) : Rh → PySem.Expr → Bool
  | .ex x, e => mE G N x sc e
  | .new es, e => match e with
    | .List xs _ => mEs G N es sc xs
    | _ => false
  | .rep es n, e => match e with
    | .BinOp (.List xs _) .Mult m _ => mEs G N es sc xs && mE G N n sc m
    | _ => false
  | .ite c a b, e => match e with
    | .IfExp x y z _ => mT G N c sc x && mR G N sc a y && mR G N sc b z
    | _ => false
/-- two or three names stored from the right -/
def swpOk (sc : Scope) (ts : List (Str × Pos)) (vs : List PySem.Expr) : Bool :=
  isFnK sc && (ts.all fun t => isLoc sc t.1 && (t.2.line == (ts.head?.map (·.2.line)).getD 0)) && vs.all notSt && !(vs.all (foldedForSure 8)) && !(vs.all (constantsAlone 8))
/-- two names, one of them a cell: stored from the left -/
def swnOk (sc : Scope) (x y : Str) (a b : PySem.Expr) : Bool := loc1 sc true x && loc1 sc true y && notSt a && notSt b && (isCel sc x || isCel sc y)
mutual
def mS (G : Nm) (N : List Str) (sc : Scope) : Sx → Stmt → Bool
  | .set tg x, st => match st with
    | .Assign [.Tuple ts k p] e _ => notTup e && notCmp e && mTg N sc true tg (.Tuple ts k p) && mE G N x sc e
    | _ => false
  | .put i r, st => match st with
    | .Assign [.Name x p] e _ => decide (N[i]? = some x) && loc1 sc true x && isFnK sc && swOk sc x p e && mR G N sc r e
    | _ => false
  | .par is rs, st => match st with
    | .Assign [.Tuple [.Name x px, .Name y py] _ _] (.Tuple [a, b] _ _) _ => match is, rs with
      | [i, j], [r, s] => decide (N[i]? = some x) && decide (N[j]? = some y) && decide (i ≠ j) && decide (x ≠ y) && (swpOk sc [(x, px), (y, py)] [a, b] || swnOk sc x y a b) && mR G N sc r a && mR G N sc s b
      | _, _ => false
    | .Assign [.Tuple [.Name x px, .Name y py, .Name z pz] _ _] (.Tuple [a, b, c] _ _) _ => match is, rs with
      | [i, j, l], [r, s, t] => decide (N[i]? = some x) && decide (N[j]? = some y) && decide (N[l]? = some z) && decide (i ≠ j) && decide (i ≠ l) && decide (j ≠ l) && decide (x ≠ y) && decide (x ≠ z) && decide (y ≠ z) && swpOk sc [(x, px), (y, py), (z, pz)] [a, b, c] && mR G N sc r a && mR G N sc s b && mR G N sc t c
      | _, _ => false
    | _ => false
  | .aug i o x, st => match st with
    | .AugAssign (.Name y _) .Add e _ => decide (N[i]? = some y) && loc1 sc true y && mE G N x sc e
    | _ => false
  | .app i x, st => match st with
    | .Expr (.Call (.Attribute (.Name y p1) m ap) [e] [] cp) _ => decide (m = "append") && (ap.endLine == cp.line) && notSt e && mE G N (.var i) sc (.Name y p1) && mE G N x sc e
    | _ => false
  | .ext i x, st => match st with
    | .Expr (.Call (.Attribute (.Name y p1) m ap) [e] [] cp) _ => decide (m = "extend") && (ap.endLine == cp.line) && notSt e && mE G N (.var i) sc (.Name y p1) && mE G N x sc e
    | _ => false
  | .sti i j x, st => match st with
    | .Assign [.Subscript (.Name y p1) k p2] e _ => notSlc k && notCmp e && mE G N (.var i) sc (.Name y p1) && mE G N j sc k && mE G N x sc e
    | _ => false
  | .ife c a b, st => match st with
    | .If t x y _ => mT G N c sc t && mSs G N sc a x && mSs G N sc b y
    | _ => false
  | .whl c b, st => match st with
    | .While t x [] _ => mT G N c sc t && mSs G N sc b x
    | _ => false
  | .for_ tg it b, st => match st with
    | .For t e x [] _ => notSet e && mTg N sc true tg t && mI G N it sc t e && mSs G N sc b x
    | _ => false
  | .forr tg i b, st => match st with
    | .For t e x [] _ => notSet e && mTg N sc true tg t && mE G N (.var i) sc e && mSs G N sc b x
    | _ => false
  | .ret x, st => match st with
    | .Return (some e) _ => mE G N x sc e
    | _ => false
  | .retn, st => match st with
    | .Return none _ => true
    | _ => false
  | .rai c, st => match st with
    | .Raise (some (.Call (.Name x _) [.Constant (.str _) _ _] [] _)) none _ => decide (c ∈ G.es) && decide (G.enm c = x) && glb sc x && nodbg x
    | _ => false
  | .exp x, st => match st with
    | .Expr e _ => notCmp e && mE G N x sc e
    | _ => false
  | .brk, st => match st with
    | .Break _ => true
    | _ => false
  | .cnt, st => match st with
    | .Continue _ => true
    | _ => false
def mSs (G : Nm) (N : List Str) (sc : Scope) : Ss → List Stmt → Bool
  | .nil, sts => match sts with
    | [] => true
    | _ => false
  | .cons s ss, sts => match sts with
    | t :: ts => mS G N sc s t && mSs G N sc ss ts
    | _ => false
end
theorem isFnK_ok {sc : Scope} (h : isFnK sc = true) : sc.kind = .function := by
  unfold isFnK at h
  split at h
  · assumption
  · cases h
theorem isLoc_ok {sc : Scope} {x : Str} (h : isLoc sc x = true) : sc.names.lookup x = some .local := by
  unfold isLoc at h
  split at h
  · assumption
  · cases h
theorem isCel_ok {sc : Scope} {x : Str} (h : isCel sc x = true) : sc.names.lookup x = some .cell := by
  unfold isCel at h
  split at h
  · assumption
  · cases h
theorem blockFn {env : Env} (h : env.scope.kind = .function) : env.blockKind = .function := by
  unfold Env.blockKind
  rw [h]; rfl
theorem notStd : ∀ {e : PySem.Expr}, notSt e = true → (match e with | .Starred .. => true | _ => false) = false := by
  intro e h
  cases e <;> first | rfl | (simp [notSt] at h)
theorem swapped_two {sc : Scope} {env : Env} {x y : Str} {px py pt pt2 : Pos} {kt k2 : Nat} {a b : PySem.Expr} (hs : env.scope = sc) (hxy : x ≠ y) (h : swpOk sc [(x, px), (y, py)] [a, b] = true) :
    swappedStores [.Tuple [.Name x px, .Name y py] kt pt] (.Tuple [a, b] k2 pt2) env = pure (some [x, y]) := by
  unfold swpOk at h
  simp only [Bool.and_eq_true, Bool.not_eq_true', List.all_cons, List.all_nil, Bool.and_true, List.head?_cons, Option.map_some, Option.getD_some] at h
  obtain ⟨⟨⟨⟨h1, ⟨hx, _⟩, hy, hl⟩, ha, hb⟩, hf⟩, hc⟩ := h
  have hk : env.blockKind = .function := blockFn (by rw [hs]; exact isFnK_ok h1)
  have kx : env.kindOf x = some .local := by
    show env.scope.names.lookup x = some .local
    rw [hs]; exact isLoc_ok hx
  have ky : env.kindOf y = some .local := by
    show env.scope.names.lookup y = some .local
    rw [hs]; exact isLoc_ok hy
  have e1 : py.line = px.line := by simpa using hl
  have na := notStd ha
  have nb := notStd hb
  have hyx : ¬ y = x := fun e => hxy e.symm
  have byx : (y == x) = false := beq_eq_false_iff_ne.mpr hyx
  unfold swappedStores
  simp [hk, kx, ky, e1, hf, hc, Expr.pos, List.eraseDups, List.eraseDupsBy, List.eraseDupsBy.loop, byx]
  intro hh
  rcases hh with hh | hh
  · cases a <;> first | (cases hh; done) | (simp [notSt] at ha)
  · cases b <;> first | (cases hh; done) | (simp [notSt] at hb)
theorem fm_two {α β : Type} {f : α → Option β} {a b : α} (h : f a = none ∨ f b = none) : ([a, b].filterMap f).length ≤ 1 := by
  cases ha : f a <;> cases hb : f b <;> simp [List.filterMap_cons, ha, hb] at h ⊢
theorem swapped_cell {sc : Scope} {env : Env} {x y : Str} {px py pt pt2 : Pos} {kt k2 : Nat} {a b : PySem.Expr} (hs : env.scope = sc) (h : (isCel sc x || isCel sc y) = true) :
    swappedStores [.Tuple [.Name x px, .Name y py] kt pt] (.Tuple [a, b] k2 pt2) env = pure none := by
  have hk : env.kindOf x = some .cell ∨ env.kindOf y = some .cell := by
    rcases Bool.or_eq_true_iff.mp h with h | h
    · exact .inl (by show env.scope.names.lookup x = some .cell; rw [hs]; exact isCel_ok h)
    · exact .inr (by show env.scope.names.lookup y = some .cell; rw [hs]; exact isCel_ok h)
  have key : ∀ n : List Str, n.length ≤ 1 → (n.length != 2 || n.eraseDups.length != n.length) = true := fun n hn => by
    have : (n.length != 2) = true := by simp; omega
    rw [this]
    rfl
  unfold swappedStores
  simp only [pure_bind]
  split
  · rfl
  · split
    · rfl
    · rw [if_pos]
      apply key
      refine fm_two ?_
      rcases hk with hk | hk
      · exact .inl (by simp [hk])
      · exact .inr (by simp [hk])
theorem swapped_three {sc : Scope} {env : Env} {x y z : Str} {px py pz pt pt2 : Pos} {kt k2 : Nat} {a b c : PySem.Expr} (hs : env.scope = sc) (hxy : x ≠ y) (hxz : x ≠ z) (hyz : y ≠ z) (h : swpOk sc [(x, px), (y, py), (z, pz)] [a, b, c] = true) :
    swappedStores [.Tuple [.Name x px, .Name y py, .Name z pz] kt pt] (.Tuple [a, b, c] k2 pt2) env = pure (some [x, y, z]) := by
  unfold swpOk at h
  simp only [Bool.and_eq_true, Bool.not_eq_true', List.all_cons, List.all_nil, Bool.and_true, List.head?_cons, Option.map_some, Option.getD_some] at h
  obtain ⟨⟨⟨⟨h1, ⟨hx, _⟩, ⟨hy, hl⟩, hz, hl2⟩, ha, hb, hc'⟩, hf⟩, hc⟩ := h
  have hk : env.blockKind = .function := blockFn (by rw [hs]; exact isFnK_ok h1)
  have kx : env.kindOf x = some .local := by
    show env.scope.names.lookup x = some .local
    rw [hs]; exact isLoc_ok hx
  have ky : env.kindOf y = some .local := by
    show env.scope.names.lookup y = some .local
    rw [hs]; exact isLoc_ok hy
  have kz : env.kindOf z = some .local := by
    show env.scope.names.lookup z = some .local
    rw [hs]; exact isLoc_ok hz
  have e1 : py.line = px.line := by simpa using hl
  have e2 : pz.line = px.line := by simpa using hl2
  have na := notStd ha
  have nb := notStd hb
  have nc := notStd hc'
  have hyx : ¬ y = x := fun e => hxy e.symm
  have hzx : ¬ z = x := fun e => hxz e.symm
  have hzy : ¬ z = y := fun e => hyz e.symm
  have byx : (y == x) = false := beq_eq_false_iff_ne.mpr hyx
  have bzx : (z == x) = false := beq_eq_false_iff_ne.mpr hzx
  have bzy : (z == y) = false := beq_eq_false_iff_ne.mpr hzy
  unfold swappedStores
  simp [hk, kx, ky, kz, e1, e2, hf, hc, Expr.pos, List.eraseDups, List.eraseDupsBy, List.eraseDupsBy.loop, byx, bzx, bzy]
  intro hh
  rcases hh with hh | hh | hh
  · cases a <;> first | (cases hh; done) | (simp [notSt] at ha)
  · cases b <;> first | (cases hh; done) | (simp [notSt] at hb)
  · cases c <;> first | (cases hh; done) | (simp [notSt] at hc')
theorem sw_cell {elt : PySem.Expr} {gs : List Comprehension} {scope : Scope} {pos py : Pos} {y : Str} {l : Nat} {env : Env} (hy : env.scope.names.lookup y = some .cell) : swapsWith (.ListComp elt gs scope pos) (some (.Name y py)) l env = pure false := by
  have ky : env.kindOf y = some .cell := hy
  unfold swapsWith
  simp [ky]
  rw [show (NameKind.cell == NameKind.local) = false from rfl, Bool.and_false, Bool.false_and, Bool.false_and]
end Bk
/-! BkK: the soundness of statements. -/
namespace Bk
open PySem PySem.Spec PyProof.Rows L2
theorem PS.imp {X : Cx} {st : Stmt} {t t' : TS} (p : PS X st t) (h : ∀ D σ H, t' D σ H → t D σ H) : PS X st t' := ⟨fun pins s σ H D I q => p.run pins s σ H D I (h D σ H q)⟩
theorem PSs.imp {X : Cx} {st : List Stmt} {t t' : TS} (p : PSs X st t) (h : ∀ D σ H, t' D σ H → t D σ H) : PSs X st t' := ⟨fun pins s σ H D I q => p.run pins s σ H D I (h D σ H q)⟩

/-- what is wanted behind a statement -/
def PoS (K : PySem.W.Frag) (mg : Str → Option Value) (G : Nm) (S : Sg) (H : Hp) (D : Ends) (E : XK) : Fl → Prop
  | .nx e h => ∀ S' σ' H', Ext S H S' H' → RelH K S' H' h → RelE K S' H' e σ' → D.nx σ' H'
  | .rt v h => ∀ S' w H', Ext S H S' H' → RelH K S' H' h → RW K S' H' v w → D.rt w H'
  | .bk e h => ∀ S' σ' H', Ext S H S' H' → RelH K S' H' h → RelE K S' H' e σ' → D.bk σ' H'
  | .ct e h => ∀ S' σ' H', Ext S H S' H' → RelH K S' H' h → RelE K S' H' e σ' → D.ct σ' H'
  | .ex c => ∀ S' H' h', Ext S H S' H' → RelH K S' H' h' → exE mg G E c H'
theorem PoS.up {K : PySem.W.Frag} {mg : Str → Option Value} {G : Nm} {S S1 : Sg} {H H1 : Hp} {D : Ends} {E : XK} (x : Ext S H S1 H1) : ∀ r : Fl, PoS K mg G S H D E r → PoS K mg G S1 H1 D E r
  | .nx e h, p => fun S' σ' H' x' => p S' σ' H' (x.trans x')
  | .rt v h, p => fun S' w H' x' => p S' w H' (x.trans x')
  | .bk e h, p => fun S' σ' H' x' => p S' σ' H' (x.trans x')
  | .ct e h, p => fun S' σ' H' x' => p S' σ' H' (x.trans x')
  | .ex c, p => fun S' H' h' x' => p S' H' h' (x.trans x')
section
variable (K : PySem.W.Frag) (mg : Str → Option Value) (G : Nm) (gc : Gc) (cl : Cl) (wn : Nat) (E : XK)
def tS (s : Sx) : TS := fun D σ H => ∃ S e h, RelH K S H h ∧ RelE K S H e σ ∧ (exS gc cl wn s e h).All (PoS K mg G S H D E)
def tSs (s : Ss) : TS := fun D σ H => ∃ S e h, RelH K S H h ∧ RelE K S H e σ ∧ (exSs gc cl wn s e h).All (PoS K mg G S H D E)
/-- the right side -/
def tR (r : Rh) : TE := fun σ H Q => ∃ S e h, RelH K S H h ∧ RelE K S H e σ ∧ (evR gc cl r e h).All (fun q => match q with
  | .ok p => ∀ S' w H', Ext S H S' H' → RelH K S' H' p.2 → RW K S' H' p.1 w → Q w H'
  | .ex c => ∀ S' H' h', Ext S H S' H' → RelH K S' H' h' → exE mg G E c H')
end
section
variable {K : PySem.W.Frag} {mg : Str → Option Value} {G : Nm} {gc : Gc} {cl : Cl} {wn : Nat} {E : XK} {S : Sg} {H : Hp} {h : Hq} {e : En} {σ : L2.St}
theorem onE_all {α : Type} {m : M α} {f : α → F Fl} {P : Fl → Prop} (hb : (onE m f).All P) : m.All fun r => match r with
    | .ok a => (f a).All P
    | .ex c => P (.ex c) := by
  refine F.All.imp (fun r p => ?_) (F.All_bind.mp hb)
  cases r with
  | ok a => exact p
  | ex c => exact p
theorem onS {x : Ex} {f : Vv → F Fl} {D : Ends} {R : VK} (r : RelH K S H h) (re : RelE K S H e σ) (hb : (onE (evE gc cl x e h) f).All (PoS K mg G S H D E))
    (k : ∀ a S1 H1 v, Ext S H S1 H1 → RelH K S1 H1 h → RelE K S1 H1 e σ → RW K S1 H1 a v → (f a).All (PoS K mg G S1 H1 D E) → R v H1) : tE K mg G gc cl E x σ H R := by
  refine ⟨S, e, h, r, re, F.All.imp (fun y p => ?_) (onE_all hb)⟩
  cases y with
  | ok a => exact fun S' H' x' r' v rv => k a S' H' v x' r' (re.ext r x') rv (F.All.imp (fun z pz => pz.up x' z) p)
  | ex c => exact fun S' H' x' r' => p S' H' h x' r'
theorem onST {x : Tx} {f : Bool → F Fl} {D : Ends} {R : Bool → Hp → Prop} (r : RelH K S H h) (re : RelE K S H e σ) (hb : (onE (evT gc cl x e h) f).All (PoS K mg G S H D E))
    (k : ∀ a S1 H1, Ext S H S1 H1 → RelH K S1 H1 h → RelE K S1 H1 e σ → (f a).All (PoS K mg G S1 H1 D E) → R a H1) : tT K mg G gc cl E x σ H R := by
  refine ⟨S, e, h, r, re, F.All.imp (fun y p => ?_) (onE_all hb)⟩
  cases y with
  | ok a => exact fun S' H' x' r' => k a S' H' x' r' (re.ext r x') (F.All.imp (fun z pz => pz.up x' z) p)
  | ex c => exact fun S' H' x' r' => p S' H' h x' r'
theorem onSI {x : Ix} {f : List D → F Fl} {D : Ends} {R : It → Hp → Prop} (r : RelH K S H h) (re : RelE K S H e σ) (hb : (onE (evI gc cl x e h) f).All (PoS K mg G S H D E))
    (k : ∀ a S1 H1 J, Ext S H S1 H1 → RelH K S1 H1 h → RelE K S1 H1 e σ → ItOk K S1 H1 (hqI x h) J a → (f a).All (PoS K mg G S1 H1 D E) → R J H1) : tI K mg G gc cl E x σ H R := by
  refine ⟨S, e, h, r, re, F.All.imp (fun y p => ?_) (onE_all hb)⟩
  cases y with
  | ok a => exact fun S' H' x' r' J it => k a S' H' J x' r' (re.ext r x') it (F.All.imp (fun z pz => pz.up x' z) p)
  | ex c => exact fun S' H' x' r' => p S' H' h x' r'
theorem onSR {x : Rh} {f : Vv × Hq → F Fl} {D : Ends} {R : VK} (r : RelH K S H h) (re : RelE K S H e σ) (hb : (onE (evR gc cl x e h) f).All (PoS K mg G S H D E))
    (k : ∀ a S1 H1 v, Ext S H S1 H1 → RelH K S1 H1 a.2 → RelE K S1 H1 e σ → RW K S1 H1 a.1 v → (f a).All (PoS K mg G S1 H1 D E) → R v H1) : tR K mg G gc cl E x σ H R := by
  refine ⟨S, e, h, r, re, F.All.imp (fun y p => ?_) (onE_all hb)⟩
  cases y with
  | ok a => exact fun S' v H' x' r' rv => k a S' H' v x' r' (re.ext r x') rv (F.All.imp (fun z pz => pz.up x' z) p)
  | ex c => exact p
/-- the loops' ways out -/
theorem loop_all {m : F Fl} {f : En → Hq → F Fl} {P : Fl → Prop} (hb : (m.bind fun r => match r with
      | .nx e2 h2 => f e2 h2
      | .ct e2 h2 => f e2 h2
      | .bk e2 h2 => .ret (.nx e2 h2)
      | .rt v h2 => .ret (.rt v h2)
      | .ex c => .ret (.ex c)).All P) : m.All fun r => match r with
    | .nx e2 h2 => (f e2 h2).All P
    | .ct e2 h2 => (f e2 h2).All P
    | .bk e2 h2 => P (.nx e2 h2)
    | .rt v h2 => P (.rt v h2)
    | .ex c => P (.ex c) := by
  refine F.All.imp (fun r p => ?_) (F.All_bind.mp hb)
  cases r <;> exact p
/-- a turn's body: from the loop's wish to the body's -/
theorem body_po {D : Ends} {f : En → Hq → F Fl} {Nx : L2.St → Hp → Prop} (hN : ∀ e2 h2 S' σ' H', Ext S H S' H' → RelH K S' H' h2 → RelE K S' H' e2 σ' → (f e2 h2).All (PoS K mg G S' H' D E) → Nx σ' H') :
    ∀ r : Fl, (match r with
      | .nx e2 h2 => (f e2 h2).All (PoS K mg G S H D E)
      | .ct e2 h2 => (f e2 h2).All (PoS K mg G S H D E)
      | .bk e2 h2 => PoS K mg G S H D E (.nx e2 h2)
      | .rt v h2 => PoS K mg G S H D E (.rt v h2)
      | .ex c => PoS K mg G S H D E (.ex c)) → PoS K mg G S H { D with nx := Nx, ct := Nx, bk := D.nx } E r
  | .nx e2 h2, p => fun S' σ' H' x' r' re' => hN e2 h2 S' σ' H' x' r' re' (F.All.imp (fun z pz => pz.up x' z) p)
  | .ct e2 h2, p => fun S' σ' H' x' r' re' => hN e2 h2 S' σ' H' x' r' re' (F.All.imp (fun z pz => pz.up x' z) p)
  | .bk e2 h2, p => p
  | .rt v h2, p => p
  | .ex c, p => p
theorem whl_ok {c : Tx} {b : Ss} {D : Ends} (r : RelH K S H h) (re : RelE K S H e σ) (n : Nat) (hb : (whlL (fun e h => evT gc cl c e h) (fun e h => exSs gc cl wn b e h) n e h).All (PoS K mg G S H D E)) :
    tWhile (tT K mg G gc cl E c) (tSs K mg G gc cl wn E b) D σ H := by
  refine ⟨fun m σ1 H1 => ∃ S1 e1 h1, RelH K S1 H1 h1 ∧ RelE K S1 H1 e1 σ1 ∧ (whlL (fun e h => evT gc cl c e h) (fun e h => exSs gc cl wn b e h) m e1 h1).All (PoS K mg G S1 H1 D E), ⟨n, S, e, h, r, re, hb⟩, ?_⟩
  rintro m σ1 H1 ⟨S1, e1, h1, r1, re1, hb1⟩
  cases m with
  | zero => exact hb1.elim
  | succ m =>
    unfold whlL at hb1
    refine onST r1 re1 hb1 fun k S2 H2 x2 r2 re2 hb2 => ?_
    cases k with
    | false => exact iteF (hb2 S2 σ1 H2 (Ext.refl _ _) r2 re2)
    | true =>
      refine iteT ⟨fun σ' H' => ∃ S' e' h', RelH K S' H' h' ∧ RelE K S' H' e' σ' ∧ (whlL (fun e h => evT gc cl c e h) (fun e h => exSs gc cl wn b e h) m e' h').All (PoS K mg G S' H' D E), fun σ' H' w => ⟨m, Nat.lt_succ_self _, w⟩, ?_⟩
      exact ⟨S2, e1, h1, r2, re2, F.All.imp (body_po fun e2 h2 S' σ' H' x' r' re' p => ⟨S', e2, h2, r', re', p⟩) (loop_all hb2)⟩
theorem for_ok {J : It} {xs : List D} {tg : Tg} {b : Ss} {D : Ends} (r : RelH K S H h) (re : RelE K S H e σ) (it : ItOk K S H (fun _ => True) J xs) (hb : (forL tg (fun e h => exSs gc cl wn b e h) xs e h).All (PoS K mg G S H D E)) :
    ∃ W : Nat → Nat → L2.St → Hp → Prop, (∃ m, W 0 m σ H) ∧ ∀ i m σ H, W i m σ H →
      (J.stop i H ∧ D.nx σ H) ∨ (J.go i H ∧ ∃ N : L2.St → Hp → Prop, (∀ σ' H', N σ' H' → ∃ m', m' < m ∧ W (i + 1) m' σ' H') ∧ ∀ x H', J.yld i H x H' → gT K tg x σ H' fun σ2 H2 => tSs K mg G gc cl wn E b { D with nx := N, ct := N, bk := D.nx } σ2 H2) := by
  refine ⟨fun i m σ1 H1 => m = xs.length - i ∧ i ≤ xs.length ∧ ∃ S1 e1 h1, Ext S H S1 H1 ∧ RelH K S1 H1 h1 ∧ RelE K S1 H1 e1 σ1 ∧ (forL tg (fun e h => exSs gc cl wn b e h) (xs.drop i) e1 h1).All (PoS K mg G S1 H1 D E),
    ⟨xs.length, by omega, Nat.zero_le _, S, e, h, Ext.refl _ _, r, re, by rw [List.drop_zero]; exact hb⟩, ?_⟩
  rintro i m σ1 H1 ⟨rfl, hi, S1, e1, h1, x1, r1, re1, hb1⟩
  by_cases hlt : i < xs.length
  · refine .inr ⟨it.go i S1 H1 h1 trivial x1 r1 hlt, fun σ' H' => ∃ S' e' h', Ext S H S' H' ∧ RelH K S' H' h' ∧ RelE K S' H' e' σ' ∧ (forL tg (fun e h => exSs gc cl wn b e h) (xs.drop (i + 1)) e' h').All (PoS K mg G S' H' D E), fun σ' H' w => ⟨xs.length - (i + 1), by omega, rfl, hlt, w⟩, fun x H' y => ?_⟩
    obtain ⟨xy, ry, d, ed, rv⟩ := it.yld i S1 H1 h1 x H' trivial x1 r1 hlt y
    replace re1 := re1.ext r1 xy
    replace x1 := x1.trans xy
    replace hb1 := F.All.imp (fun z (pz : PoS K mg G S1 H1 D E z) => PoS.up xy z pz) hb1
    replace r1 := ry
    have edr : xs.drop i = d :: xs.drop (i + 1) := by
      rw [List.drop_eq_getElem_cons hlt]
      congr 1
      rw [List.getElem?_eq_getElem hlt] at ed
      exact Option.some.inj ed
    rw [edr] at hb1
    unfold forL at hb1
    split at hb1
    · rename_i e2 ea
      refine ⟨S1, e1, h1, d, e2, r1, re1, rv, ea, fun σ2 re2 _ => ⟨S1, e2, h1, r1, re2, F.All.imp (body_po fun e3 h3 S' σ' H' x' r' re' p => ⟨S', e3, h3, x1.trans x', r', re', p⟩) (loop_all hb1)⟩⟩
    · exact hb1.elim
  · have hi2 : i = xs.length := by omega
    subst hi2
    rw [List.drop_length] at hb1
    exact .inl ⟨it.stop S1 H1 h1 trivial x1 r1, hb1 S1 σ1 H1 (Ext.refl _ _) r1 re1⟩
theorem forr_ok {n : Nat} {a : Addr} {ys : List D} {tg : Tg} {b : Ss} {D : Ends} (r : RelH K S H h) (re : RelE K S H e σ) (ea : S.as[n]? = some a) (hb : (forR tg n (fun e h => exSs gc cl wn b e h) ys.length 0 e h).All (PoS K mg G S H D E)) :
    ∃ W : Nat → Nat → L2.St → Hp → Prop, (∃ m, W 0 m σ H) ∧ ∀ i m σ H, W i m σ H →
      ((Itl K a).stop i H ∧ D.nx σ H) ∨ ((Itl K a).go i H ∧ ∃ N : L2.St → Hp → Prop, (∀ σ' H', N σ' H' → ∃ m', m' < m ∧ W (i + 1) m' σ' H') ∧ ∀ x H', (Itl K a).yld i H x H' → gT K tg x σ H' fun σ2 H2 => tSs K mg G gc cl wn E b { D with nx := N, ct := N, bk := D.nx } σ2 H2) := by
  refine ⟨fun i m σ1 H1 => ∃ S1 e1 h1, Ext S H S1 H1 ∧ RelH K S1 H1 h1 ∧ RelE K S1 H1 e1 σ1 ∧ (forR tg n (fun e h => exSs gc cl wn b e h) m i e1 h1).All (PoS K mg G S1 H1 D E),
    ⟨ys.length, S, e, h, Ext.refl _ _, r, re, hb⟩, ?_⟩
  rintro i m σ1 H1 ⟨S1, e1, h1, x1, r1, re1, hb1⟩
  have at_ : ∀ zs, h1[n]? = some (.lst zs) → ∃ vs, H1 a = some (.lst vs) ∧ RVs K S1 H1 zs vs := fun zs hz => by
    obtain ⟨b, eb, vs, hv, q⟩ := r1.obj n _ hz
    obtain ⟨ns, e2⟩ := x1.as
    rw [e2, List.getElem?_append_left (List.getElem?_eq_some_iff.mp ea).1, ea] at eb
    cases eb
    exact ⟨vs, hv, q⟩
  cases m with
  | zero =>
    unfold forR at hb1
    split at hb1
    · rename_i zs hz
      obtain ⟨vs, hv, q⟩ := at_ zs hz
      split at hb1
      · rename_i hl
        have hl : zs.length = i := Nat.eq_of_beq_eq_true hl
        exact .inl ⟨⟨vs, SqL.of hv, by rw [q.length, hl]; exact Nat.le_refl _⟩, hb1 S1 σ1 H1 (Ext.refl _ _) r1 re1⟩
      · exact hb1.elim
    · exact hb1.elim
  | succ m =>
    unfold forR at hb1
    split at hb1
    · rename_i zs hz
      obtain ⟨vs, hv, q⟩ := at_ zs hz
      split at hb1
      · rename_i d hd
        obtain ⟨w, ew, rw1⟩ := q.get hd
        refine .inr ⟨⟨vs, w, SqL.of hv, ew⟩, fun σ' H' => ∃ S' e' h', Ext S H S' H' ∧ RelH K S' H' h' ∧ RelE K S' H' e' σ' ∧ (forR tg n (fun e h => exSs gc cl wn b e h) m (i + 1) e' h').All (PoS K mg G S' H' D E), fun σ' H' w => ⟨m, Nat.lt_succ_self _, w⟩, fun x H' y => ?_⟩
        obtain ⟨rfl, y⟩ := y
        have exw : x = w := by
          have := y vs (SqL.of hv)
          rw [ew] at this
          exact (Option.some.inj this).symm
        subst exw
        split at hb1
        · rename_i e2 eaa
          exact ⟨S1, e1, h1, d, e2, r1, re1, rw1, eaa, fun σ2 re2 _ => ⟨S1, e2, h1, r1, re2, F.All.imp (body_po fun e3 h3 S' σ' H' x' r' re' p => ⟨S', e3, h3, x1.trans x', r', re', p⟩) (loop_all hb1)⟩⟩
        · exact hb1.elim
      · exact hb1.elim
    · exact hb1.elim
end

section
variable {k : Nat} {G : Nm} {gc : Gc} {cl : Cl} {N : List Str} {X : Cx} {sc : Scope} {E : XK} {wn : Nat}
theorem sR (C : Cok X N sc true E k G gc cl) : ∀ (r : Rh) (e : PySem.Expr), mR G N sc r e = true → PE X e (tR X.K X.mg G gc cl E r)
  | .ex x, e, h => by
    simp only [mR] at h
    refine PE.imp (sE x X sc true E e C h) fun σ H Q q => ?_
    obtain ⟨S, e, h, r, re, hb⟩ := q
    unfold evR at hb
    refine ⟨S, e, h, r, re, F.All.imp (fun y p => ?_) (bnd_all hb)⟩
    cases y with
    | ok a => exact fun S' H' x' r' v rv => p S' v H' x' r' rv
    | ex c => exact fun S' H' x' r' => p S' H' h x' r'
  | .new es, e, h => by
    simp only [mR] at h
    split at h
    · rename_i xs pp
      refine PE.imp (pe_lst (sEs es X sc true E xs C h)) fun σ H Q q => ?_
      obtain ⟨S, e, h, r, re, hb⟩ := q
      unfold evR at hb
      refine ⟨S, e, h, r, re, F.All.imp (fun y p => ?_) (bnd_all hb)⟩
      cases y with
      | ex c => exact fun S' H' x' r' => p S' H' h x' r'
      | ok vs =>
        intro S' H' x' r' ws rws _
        replace p : (match dats vs with | some ds => ok (Vv.r h.length, h ++ [Ob.lst ds]) | none => F.stk).All _ := p
        split at p
        · rename_i ds ed
          unfold dats at ed
          split at ed
          · rename_i hle
            have q1 := dats_ok ed rws
            refine ⟨?_, fun pp np => ?_⟩
            · rw [rws.length]
              have := Nat.le_of_ble_eq_true hle
              rw [sizeLine_eq]; omega
            · refine p (S'.own pp) (.ref pp) _ (x'.trans (ext_own np)) (r'.own np q1) ⟨pp, ?_, rfl⟩
              show (S'.as ++ [pp])[h.length]? = some pp
              rw [← r'.len]; simp
          · cases ed
        · exact p.elim
    · cases h
  | .rep es n, e, h => by
    simp only [mR] at h
    split at h
    · rename_i xs p1 m p2
      rw [Bool.and_eq_true] at h
      refine PE.imp (pe_op op_rep (pe_lst (sEs es X sc true E xs C h.1)) (sE n X sc true E m C h.2)) fun σ H Q q => ?_
      obtain ⟨S, e, h, r, re, hb⟩ := q
      unfold evR at hb
      refine ⟨S, e, h, r, re, F.All.imp (fun y p => ?_) (bnd_all hb)⟩
      cases y with
      | ex c => exact fun S' H' x' r' => p S' H' h x' r'
      | ok vs =>
        intro S1 H1 x1 r1 ws rws _
        replace p : (match dats vs with
          | some ds => bnd (evE gc cl n e h) fun w => match w with
            | .d (.int k) => if 0 ≤ k ∧ k ≤ 10000 ∧ ds.length ≤ 100 then ok (Vv.r h.length, h ++ [Ob.lst (repD k.toNat ds)]) else .stk
            | _ => .stk
          | none => F.stk).All _ := p
        split at p
        · rename_i ds hd
          unfold dats at hd
          split at hd
          · rename_i hle
            have q1 := dats_ok hd rws
            refine ⟨?_, fun pp np => ?_⟩
            · rw [rws.length]
              have := Nat.le_of_ble_eq_true hle
              rw [sizeLine_eq]; omega
            · have x2 : Ext S1 H1 (S1.frz pp) (upd H1 pp (.lst ws)) := ext_frz np
              have r2 : RelH X.K (S1.frz pp) (upd H1 pp (.lst ws)) h := r1.frz np
              refine ⟨S1.frz pp, e, h, r2, (re.ext r x1).ext r1 x2, F.All.imp (fun y p => ?_) (bnd_all p)⟩
              cases y with
              | ex c => exact fun S' H' x' r' => p S' H' h (x1.trans (x2.trans x')) r'
              | ok w =>
                intro S3 H3 x3 r3 v3 rv3
                replace p : (match w with
                  | .d (.int k) => if 0 ≤ k ∧ k ≤ 10000 ∧ ds.length ≤ 100 then ok (Vv.r h.length, h ++ [Ob.lst (repD k.toNat ds)]) else .stk
                  | _ => F.stk).All _ := p
                split at p
                · rename_i k'
                  split at p
                  · rename_i hk
                    have hv3 : v3 = .int k' := by have := rv3; unfold RW RV at this; exact this
                    have k3 : H3 pp = some (.lst ws) := r2.keepL x3 upd_same (.inr rfl)
                    have q3 : RVs X.K S3 H3 ds ws := RVs.ext r2 x3 ds ws (RVs.ext r1 x2 ds ws q1)
                    refine ⟨pp, k', ws, rfl, hv3, k3, by omega, by omega, ?_, fun pq nq => ?_⟩
                    · rw [q3.length]
                      refine Nat.le_trans (Nat.mul_le_mul hk.2.2 (show _ ≤ 10000 by omega)) ?_
                      rw [sizeLine_eq]; omega
                    · refine p (S3.own pq) (.ref pq) _ (x1.trans (x2.trans (x3.trans (ext_own nq)))) (r3.own nq (q3.rep _)) ⟨pq, ?_, rfl⟩
                      show (S3.as ++ [pq])[h.length]? = some pq
                      rw [← r3.len]; simp
                  · exact p.elim
                · exact p.elim
          · cases hd
        · exact p.elim
    · cases h
  | .ite c a b, e, h => by
    simp only [mR] at h
    split at h
    · rename_i tc ta tb pp
      simp only [Bool.and_eq_true] at h
      refine PE.imp (pe_ifExp (sT c X sc true E tc C h.1.1) (sR C a ta h.1.2) (sR C b tb h.2)) fun σ H Q q => ?_
      obtain ⟨S, e, h, r, re, hb⟩ := q
      unfold evR at hb
      refine ⟨S, e, h, r, re, F.All.imp (fun y p => ?_) (bnd_all hb)⟩
      cases y with
      | ex c => exact fun S' H' x' r' => p S' H' h x' r'
      | ok k =>
        intro S' H' x' r'
        cases k with
        | true =>
          refine (iteT (B := tR X.K X.mg G gc cl E b σ H' Q) ?_ : if true = true then tR X.K X.mg G gc cl E a σ H' Q else tR X.K X.mg G gc cl E b σ H' Q)
          refine ⟨S', e, h, r', re.ext r x', F.All.imp (fun z pz => ?_) p⟩
          cases z with
          | ok p => exact fun S2 w H2 x2 => pz S2 w H2 (x'.trans x2)
          | ex c => exact fun S2 H2 h2 x2 => pz S2 H2 h2 (x'.trans x2)
        | false =>
          refine (iteF (A := tR X.K X.mg G gc cl E a σ H' Q) ?_ : if false = true then tR X.K X.mg G gc cl E a σ H' Q else tR X.K X.mg G gc cl E b σ H' Q)
          refine ⟨S', e, h, r', re.ext r x', F.All.imp (fun z pz => ?_) p⟩
          cases z with
          | ok p => exact fun S2 w H2 x2 => pz S2 w H2 (x'.trans x2)
          | ex c => exact fun S2 H2 h2 x2 => pz S2 H2 h2 (x'.trans x2)
    · cases h

theorem onE_bnd {α β : Type} {m : M α} {g : α → M β} {f : β → F Fl} : onE (bnd m g) f = onE m fun a => onE (g a) f := by
  unfold onE bnd
  rw [F.bind_assoc]
  congr 1
  funext r
  cases r <;> rfl
theorem getD_some {e : En} {i : Nat} {v : Vv} (hv : e.getD i none = some v) : e[i]? = some (some v) := by
  rw [List.getD_eq_getElem?_getD] at hv
  cases he : e[i]? with
  | none => rw [he] at hv; cases hv
  | some o => rw [he] at hv; simp at hv; rw [hv]
theorem assignSub {o j : PySem.Expr} {p : Pos} {env : Env} (h : notSlc j = true) : ∀ v, assign (.Subscript o j p) env v = (do
      let ov ← holding [v] (eval o env)
      let iv ← holding [v, ov] (eval j env)
      standAt p
      holding [v, ov, iv] (setItem ov iv v)
      release [v, ov, iv] []) := by
  intro v
  cases j <;> first | rfl | (simp [notSlc] at h)
/-- the place of one of the def's own lists -/
theorem own_at {K : PySem.W.Frag} {S : Sg} {H : Hp} {h : Hq} {e : En} {σ : L2.St} {i n : Nat} (re : RelE K S H e σ) (hv : e.getD i none = some (.r n)) : ∃ a, σ[i]? = some (some (.ref a)) ∧ S.as[n]? = some a := by
  obtain ⟨w, ew, a, ea, rfl⟩ := re.sl i _ (getD_some hv)
  exact ⟨a, ew, ea⟩
theorem Cok.loc (C : Cok X N sc true E k G gc cl) {x : Str} (h : loc1 sc true x = true) : Loc X.env.scope x := by
  rcases loc1_ok h with z | ⟨_, z⟩
  · exact .inl (by rw [C.hs]; exact z)
  · exact .inr (by rw [C.hs]; exact z)
theorem Cok.hf (C : Cok X N sc true E k G gc cl) (x : Str) : X.fn x = true ∨ X.env.scope.names.lookup x = some .local := .inl (C.fn rfl x)
theorem put_ok {i : Nat} {r : Rh} {D : Ends} {K : PySem.W.Frag} {mg : Str → Option Value} {σ : L2.St} {H : Hp} (q : tS K mg G gc cl wn E (.put i r) D σ H) : tR K mg G gc cl E r σ H fun x H1 => D.nx (σ.set i (some x)) H1 := by
  obtain ⟨S, e, h, r, re, hb⟩ := q
  unfold exS at hb
  refine onSR r re hb fun a S1 H1 v x1 r1 re1 ra hb1 => ?_
  split at hb1
  · exact hb1 S1 _ H1 (Ext.refl _ _) r1 (re1.set ra)
  · exact hb1.elim
theorem tR_ex {K : PySem.W.Frag} {mg : Str → Option Value} {x : Ex} {σ : L2.St} {H : Hp} {Q : VK} (q : tR K mg G gc cl E (.ex x) σ H Q) : tE K mg G gc cl E x σ H Q := by
  obtain ⟨S, e, h, r, re, hb⟩ := q
  unfold evR at hb
  refine ⟨S, e, h, r, re, F.All.imp (fun y p => ?_) (bnd_all hb)⟩
  cases y with
  | ok a => exact fun S' H' x' r' v rv => p S' v H' x' r' rv
  | ex c => exact fun S' H' x' r' => p S' H' h x' r'
theorem put_lc (C : Cok X N sc true E k G gc cl) {i : Nat} {x : Ex} {y : Str} {py pos spos : Pos} {elt : PySem.Expr} {gs : List Comprehension} {scope : Scope} (hi : N[i]? = some y) (hl : isLoc sc y = true) (hk : isFnK sc = true) (hp : (py.line == pos.line) = true)
    (ha : (scope.names.any fun (n, k) => n == y && (k == .local || k == .cell)) = false) (hm : mE G N x sc (.ListComp elt gs scope pos) = true) :
    PS X (.Assign [.Name y py] (.ListComp elt gs scope pos) spos) (tS X.K X.mg G gc cl wn E (.put i (.ex x))) := by
  have hN : X.N.Nodup := by rw [C.hN]; exact C.nd
  have hy : X.env.scope.names.lookup y = some .local := by rw [C.hs]; exact isLoc_ok hl
  have hkf : X.env.scope.kind = .function := by rw [C.hs]; exact isFnK_ok hk
  cases x with
  | cmp1 el tg it own =>
    unfold mE at hm
    split at hm
    · rename_i xx t iter sco po heq
      cases heq
      simp only [Bool.and_eq_true] at hm
      obtain ⟨⟨⟨⟨⟨h1, h2⟩, h3⟩, h4⟩, h5⟩, h6⟩ := hm
      have bo : BlkOk X.N X.env.scope scope (ownN N own) := by
        rw [C.hN, C.hs]; exact blkOk_by h1
      refine PS.imp (ps_setLc (i := i) (own := ownN N own) (g := gT X.K tg) (tt := tYes) (te := tE X.K X.mg G gc cl (fun _ _ _ => False) el) C.calm hN (by rw [C.hN]; exact hi) hy (sw_true hkf hy hp ha) (sI it X sc true E t iter C h5) bo
        (fun s H Cc cl' fp => sTg (C.blk s H scope cl' Cc fp) tg t h4) (fun _ _ _ _ _ => pts_nil) (fun s H Cc cl' fp => sE el _ _ _ _ elt (C.blk s H scope cl' Cc fp) h6) (folded h3)) fun D σ H q => ?_
      rw [ownN_map]
      exact lc1_imp h2 (tR_ex (put_ok q))
    · cases hm
  | cmpc el tg it c own =>
    unfold mE at hm
    split at hm
    · rename_i xx t iter cd sco po heq
      cases heq
      simp only [Bool.and_eq_true] at hm
      obtain ⟨⟨⟨⟨⟨⟨h1, h2⟩, h3⟩, h4⟩, h5⟩, h7⟩, h6⟩ := hm
      have bo : BlkOk X.N X.env.scope scope (ownN N own) := by
        rw [C.hN, C.hs]; exact blkOk_by h1
      refine PS.imp (ps_setLc (i := i) (own := ownN N own) (g := gT X.K tg) (tt := tT X.K X.mg G gc cl (fun _ _ _ => False) c) (te := tE X.K X.mg G gc cl (fun _ _ _ => False) el) C.calm hN (by rw [C.hN]; exact hi) hy (sw_true hkf hy hp ha) (sI it X sc true E t iter C h5) bo
        (fun s H Cc cl' fp => sTg (C.blk s H scope cl' Cc fp) tg t h4) (fun s H Cc cl' fp => pts_one (sT c _ _ _ _ cd (C.blk s H scope cl' Cc fp) h7)) (fun s H Cc cl' fp => sE el _ _ _ _ elt (C.blk s H scope cl' Cc fp) h6) (folded h3)) fun D σ H q => ?_
      rw [ownN_map]
      exact lcc_imp h2 (tR_ex (put_ok q))
    · cases hm
  | _ => simp [mE] at hm
end
end Bk
/-! BkL: the soundness of statements, the induction; defs. -/
namespace Bk
open PySem PySem.Spec PyProof.Rows L2
section
variable {k : Nat} {G : Nm} {gc : Gc} {cl : Cl} {N : List Str} {X : Cx} {sc : Scope} {E : XK} {wn : Nat}
mutual
theorem sS (C : Cok X N sc true E k G gc cl) (po : PassesOwn (model X.prog X.w) X.A X.env X.xe) : ∀ (s : Sx) (st : Stmt), mS G N sc s st = true → PS X st (tS X.K X.mg G gc cl wn E s)
  | .set tg x, st, h => by
    unfold mS at h
    split at h
    · rename_i ts kk p e pp
      simp only [Bool.and_eq_true] at h
      obtain ⟨⟨⟨h1, h2⟩, h3⟩, h4⟩ := h
      refine PS.imp (ps_asg (sE x X sc true E e C h4) (sTg C tg _ h3) (swapSole_no h2) (swapped_no h1) rfl) fun D σ H q => ?_
      obtain ⟨S, e, h, r, re, hb⟩ := q
      unfold exS at hb
      refine onS r re hb fun a S1 H1 v x1 r1 re1 ra hb1 => ?_
      split at hb1
      · rename_i d
        split at hb1
        · rename_i e1 ea
          exact ⟨S1, e, h, d, e1, r1, re1, ra, ea, fun σ' re' _ => hb1 S1 σ' H1 (Ext.refl _ _) r1 re'⟩
        · exact hb1.elim
      · exact hb1.elim
    · cases h
  | .put i r, st, h => by
    unfold mS at h
    split at h
    · rename_i x p e pp
      simp only [Bool.and_eq_true, decide_eq_true_eq] at h
      obtain ⟨⟨⟨⟨h1, h2⟩, h3⟩, h4⟩, h5⟩ := h
      have hN : X.N.Nodup := by rw [C.hN]; exact C.nd
      have hi : X.N[i]? = some x := by rw [C.hN]; exact h1
      by_cases hc : notCmp e = true
      · exact PS.imp (ps_set hN hi (C.loc h2) (sR C r e h5) (swaps_no hc) (C.hf x)) fun D σ H q => put_ok q
      · cases e with
        | ListComp elt gs scope pos =>
          unfold swOk at h4
          rcases Bool.or_eq_true_iff.mp h4 with h4 | h4
          · exact PS.imp (ps_set hN hi (C.loc h2) (sR C r _ h5) (sw_cell (by rw [C.hs]; exact isCel_ok h4)) (C.hf x)) fun D σ H q => put_ok q
          · simp only [Bool.and_eq_true, Bool.not_eq_true'] at h4
            cases r with
            | ex y => exact put_lc C h1 h4.1.1 h3 h4.1.2 h4.2 h5
            | new es => simp [mR] at h5
            | rep es n => simp [mR] at h5
            | ite c a b => simp [mR] at h5
        | SetComp => simp [swOk] at h4
        | DictComp => simp [swOk] at h4
        | _ => exact absurd rfl hc
    · cases h
  | .par is rs, st, h => by
    unfold mS at h
    split at h
    · rename_i x px y py kt pt a b k2 pt2 pp
      split at h
      · rename_i i j r s
        simp only [Bool.and_eq_true, decide_eq_true_eq] at h
        obtain ⟨⟨⟨⟨⟨⟨h1, h2⟩, h3⟩, h4⟩, h5⟩, h6⟩, h7⟩ := h
        have hN : X.N.Nodup := by rw [C.hN]; exact C.nd
        rcases Bool.or_eq_true_iff.mp h5 with h5 | h5
        rotate_left
        · unfold swnOk at h5
          simp only [Bool.and_eq_true] at h5
          obtain ⟨⟨⟨⟨l1, l2⟩, ha⟩, hb⟩, l3⟩ := h5
          refine PS.imp (ps_asg (pe_tup (pa_cons (sR C r a h6) (pa_cons (sR C s b h7) pa_nil (star_cons hb)) (star_cons ha))) (pg_tup C.calm (pgs_cons (pg_name hN (by rw [C.hN]; exact h1) (C.loc l1) (C.hf x)) (pgs_cons (pg_name hN (by rw [C.hN]; exact h2) (C.loc l2) (C.hf y)) pgs_nil))) (swapSole_no rfl) (swapped_cell C.hs l3) rfl) fun D σ H q => ?_
          obtain ⟨S, e, h, r, re, hb⟩ := q
          unfold exS evRs at hb
          rw [onE_bnd] at hb
          refine onSR r re hb fun a S1 H1 v x1 r1 re1 ra hb1 => ?_
          unfold evRs at hb1
          rw [onE_bnd, onE_bnd] at hb1
          refine onSR r1 re1 hb1 fun b S2 H2 w x2 r2 re2 rb hb2 => ⟨by show 2 ≤ sizeLine; decide, fun p hp => ⟨p, [v, w], rfl, .inl (.inl upd_same), rfl, v, [w], rfl, w, [], rfl, rfl, ?_⟩⟩
          unfold evRs at hb2
          have hb2 : (match sets [i, j] [a.1, b.1] e with
            | some e1 => F.ret (Fl.nx e1 b.2)
            | none => .stk).All (PoS X.K X.mg G S2 H2 D E) := hb2
          have xn : Ext S2 H2 S2 (upd H2 p (.tup [v, w])) := ext_new hp
          split at hb2
          · rename_i e1 es
            unfold sets at es
            split at es
            · unfold sets at es
              split at es
              · unfold sets at es
                cases es
                exact hb2 S2 _ _ xn (r2.new hp) (((re2.ext r2 xn).set (RW.ext r2 xn a.1 v (RW.ext r1 x2 a.1 v ra))).set (RW.ext r2 xn b.1 w rb))
              · cases es
            · cases es
          · exact hb2.elim
        have h5' := h5
        unfold swpOk at h5'
        simp only [Bool.and_eq_true, Bool.not_eq_true', List.all_cons, List.all_nil, Bool.and_true] at h5'
        obtain ⟨⟨⟨⟨_, ⟨hx, _⟩, hy, _⟩, ha, hb⟩, _⟩, _⟩ := h5'
        refine PS.imp (ps_par C.calm hN (by rw [C.hN]; exact h1) (by rw [C.hN]; exact h2) h3 (by rw [C.hs]; exact isLoc_ok hx) (by rw [C.hs]; exact isLoc_ok hy)
          (pa_cons (sR C r a h6) (pa_cons (sR C s b h7) pa_nil (star_cons hb)) (star_cons ha)) (swapped_two C.hs h4 h5) (swapSole_no rfl)) fun D σ H q => ?_
        obtain ⟨S, e, h, r, re, hb⟩ := q
        unfold exS evRs at hb
        rw [onE_bnd] at hb
        refine onSR r re hb fun a S1 H1 v x1 r1 re1 ra hb1 => ?_
        unfold evRs at hb1
        rw [onE_bnd, onE_bnd] at hb1
        refine onSR r1 re1 hb1 fun b S2 H2 w x2 r2 re2 rb hb2 => ⟨v, w, rfl, ?_⟩
        unfold evRs at hb2
        have hb2 : (match sets [i, j] [a.1, b.1] e with
          | some e1 => F.ret (Fl.nx e1 b.2)
          | none => .stk).All (PoS X.K X.mg G S2 H2 D E) := hb2
        split at hb2
        · rename_i e1 es
          unfold sets at es
          split at es
          · unfold sets at es
            split at es
            · unfold sets at es
              cases es
              exact hb2 S2 _ H2 (Ext.refl _ _) r2 ((re2.set (RW.ext r1 x2 a.1 v ra)).set rb)
            · cases es
          · cases es
        · exact hb2.elim
      · cases h
    · rename_i x px y py z pz kt pt a b c k2 pt2 pp
      split at h
      · rename_i i j l r s t
        simp only [Bool.and_eq_true, decide_eq_true_eq] at h
        obtain ⟨⟨⟨⟨⟨⟨⟨⟨⟨⟨⟨⟨h1, h2⟩, h3⟩, h4⟩, h5⟩, h6⟩, h7⟩, h8⟩, h9⟩, h10⟩, h11⟩, h12⟩, h13⟩ := h
        have hN : X.N.Nodup := by rw [C.hN]; exact C.nd
        have h5' := h10
        unfold swpOk at h5'
        simp only [Bool.and_eq_true, Bool.not_eq_true', List.all_cons, List.all_nil, Bool.and_true] at h5'
        obtain ⟨⟨⟨⟨_, ⟨hx, _⟩, ⟨hy, _⟩, hz, _⟩, ha, hb, hc⟩, _⟩, _⟩ := h5'
        refine PS.imp (ps_par3 C.calm hN (by rw [C.hN]; exact h1) (by rw [C.hN]; exact h2) (by rw [C.hN]; exact h3) h4 h5 h6 (by rw [C.hs]; exact isLoc_ok hx) (by rw [C.hs]; exact isLoc_ok hy) (by rw [C.hs]; exact isLoc_ok hz)
          (pa_cons (sR C r a h11) (pa_cons (sR C s b h12) (pa_cons (sR C t c h13) pa_nil (star_cons hc)) (star_cons hb)) (star_cons ha)) (swapped_three C.hs h7 h8 h9 h10) (swapSole_no rfl)) fun D σ H q => ?_
        obtain ⟨S, e, h, r, re, hb⟩ := q
        unfold exS evRs at hb
        rw [onE_bnd] at hb
        refine onSR r re hb fun a S1 H1 v x1 r1 re1 ra hb1 => ?_
        unfold evRs at hb1
        rw [onE_bnd, onE_bnd] at hb1
        refine onSR r1 re1 hb1 fun b S2 H2 w x2 r2 re2 rb hb2 => ?_
        unfold evRs at hb2
        rw [onE_bnd, onE_bnd] at hb2
        refine onSR r2 re2 hb2 fun c S3 H3 u x3 r3 re3 rc hb3 => ⟨v, w, u, rfl, ?_⟩
        unfold evRs at hb3
        have hb3 : (match sets [i, j, l] [a.1, b.1, c.1] e with
          | some e1 => F.ret (Fl.nx e1 c.2)
          | none => .stk).All (PoS X.K X.mg G S3 H3 D E) := hb3
        split at hb3
        · rename_i e1 es
          unfold sets at es
          split at es
          · unfold sets at es
            split at es
            · unfold sets at es
              split at es
              · unfold sets at es
                cases es
                exact hb3 S3 _ H3 (Ext.refl _ _) r3 (((re3.set (RW.ext r1 (x2.trans x3) a.1 v ra)).set (RW.ext r2 x3 b.1 w rb)).set rc)
              · cases es
            · cases es
          · cases es
        · exact hb3.elim
      · cases h
    · cases h
  | .aug i o x, st, h => by
    unfold mS at h
    split at h
    · rename_i y p1 e pp
      simp only [Bool.and_eq_true, decide_eq_true_eq] at h
      obtain ⟨⟨h1, h2⟩, h3⟩ := h
      have hN : X.N.Nodup := by rw [C.hN]; exact C.nd
      refine PS.imp (ps_aug (i := i) hN (by rw [C.hN]; exact h1) (C.loc h2) (sE x X sc true E e C h3) ip_add (C.hf y)) fun D σ H q => ?_
      obtain ⟨S, e, h, r, re, hb⟩ := q
      unfold exS at hb
      split at hb
      · rename_i a ha
        obtain ⟨w, ew, rw1⟩ := re.sl i _ (getD_some ha)
        refine ⟨w, ew, onS r re hb fun b S1 H1 v x1 r1 re1 rb hb1 => ?_⟩
        have rw2 := RW.ext r x1 _ w rw1
        split at hb1
        · split at hb1
          · rename_i p q
            have e1 : w = .int p := by have := rw2; unfold RW RV at this; exact this
            have e2 : v = .int q := by have := rb; unfold RW RV at this; exact this
            exact ⟨p, q, e1, e2, hb1 S1 _ H1 (Ext.refl _ _) r1 (re1.set (by unfold RW RV; rfl))⟩
          · exact hb1.elim
        · exact hb1.elim
      · exact hb.elim
    · cases h
  | .app i x, st, h => by
    unfold mS at h
    split at h
    · rename_i y p1 m ap e cp pp
      simp only [Bool.and_eq_true, decide_eq_true_eq] at h
      obtain ⟨⟨⟨⟨h1, h2⟩, h3⟩, h4⟩, h5⟩ := h
      subst h1
      have sc1 := star_cons (es := []) (env := X.env) h3
      refine PS.imp (ps_expr (pe_bm PySem.F.plainAttrs_list PySem.F.slot_list_append PySem.F.type_list_append mt_append (sE (.var i) X sc true E _ C h4) (pa_cons (sE x X sc true E e C h5) pa_nil sc1) rfl (by rw [sc1]; rfl) h2 sc1 rfl) (swaps_no rfl)) fun D σ H q => ?_
      obtain ⟨S, e, h, r, re, hb⟩ := q
      unfold exS at hb
      split at hb
      · rename_i n hn
        obtain ⟨a, ea, sa⟩ := own_at (h := h) re hn
        refine ⟨S, e, h, r, re, ?_⟩
        unfold evE
        rw [hn]
        intro S0 H0 x0 r0 v rv
        obtain ⟨a', ea', rfl⟩ := rv
        obtain ⟨vs0, hv0⟩ := r0.inAs (List.mem_of_getElem? ea')
        refine ⟨.inl ⟨rfl, vs0, SqL.of hv0⟩, onS r0 (re.ext r x0) (F.All.imp (fun z pz => pz.up x0 z) hb) fun b S1 H1 w x1 r1 re1 rb hb1 => ?_⟩
        split at hb1
        · rename_i d xs hd
          split at hb1
          · rename_i hl
            obtain ⟨a1, ea1, vs, hv, q⟩ := r1.obj n _ hd
            have haa : a1 = a' := by
              obtain ⟨ns, e2⟩ := x1.as
              rw [e2, List.getElem?_append_left (List.getElem?_eq_some_iff.mp ea').1, ea'] at ea1
              exact (Option.some.inj ea1).symm
            subst haa
            refine ⟨a1, vs, w, rfl, rfl, hv, ?_, ?_⟩
            · rw [q.length]
              exact Nat.lt_of_lt_of_le (by simpa [Nat.blt_eq] using hl) lim_le
            · exact hb1 S1 σ _ (ext_write (List.mem_of_getElem? ea1)) (r1.write ea1 (q.append (.cons rb .nil))) (re1.ext r1 (ext_write (List.mem_of_getElem? ea1)))
          · exact hb1.elim
        · exact hb1.elim
      · exact hb.elim
    · cases h
  | .ext i x, st, h => by
    unfold mS at h
    split at h
    · rename_i y p1 m ap e cp pp
      simp only [Bool.and_eq_true, decide_eq_true_eq] at h
      obtain ⟨⟨⟨⟨h1, h2⟩, h3⟩, h4⟩, h5⟩ := h
      subst h1
      have sc1 := star_cons (es := []) (env := X.env) h3
      refine PS.imp (ps_expr (pe_bm PySem.F.plainAttrs_list PySem.F.slot_list_extend PySem.F.type_list_extend mt_extend (sE (.var i) X sc true E _ C h4) (pa_cons (sE x X sc true E e C h5) pa_nil sc1) rfl (by rw [sc1]; rfl) h2 sc1 rfl) (swaps_no rfl)) fun D σ H q => ?_
      obtain ⟨S, e, h, r, re, hb⟩ := q
      unfold exS at hb
      split at hb
      · rename_i n hn
        obtain ⟨a, ea, sa⟩ := own_at (h := h) re hn
        refine ⟨S, e, h, r, re, ?_⟩
        unfold evE
        rw [hn]
        intro S0 H0 x0 r0 v rv
        obtain ⟨a', ea', rfl⟩ := rv
        obtain ⟨vs0, hv0⟩ := r0.inAs (List.mem_of_getElem? ea')
        refine ⟨.inl ⟨rfl, vs0, SqL.of hv0⟩, onS r0 (re.ext r x0) (F.All.imp (fun z pz => pz.up x0 z) hb) fun b S1 H1 w x1 r1 re1 rb hb1 => ?_⟩
        split at hb1
        · rename_i ds xs hd
          split at hb1
          · rename_i hl
            obtain ⟨a1, ea1, vs, hv, q⟩ := r1.obj n _ hd
            have haa : a1 = a' := by
              obtain ⟨ns, e2⟩ := x1.as
              rw [e2, List.getElem?_append_left (List.getElem?_eq_some_iff.mp ea').1, ea'] at ea1
              exact (Option.some.inj ea1).symm
            subst haa
            obtain ⟨b1, ws, rfl, hw, _, qw⟩ := (show RV X.K S1 H1 (.lst ds) w from rb) |> (fun z => by unfold RV at z; exact z)
            refine ⟨a1, b1, vs, ws, rfl, rfl, hv, hw, ?_, ?_⟩
            · rw [q.length, qw.length]
              exact Nat.le_trans (Nat.le_of_ble_eq_true hl) lim_le
            · exact hb1 S1 σ _ (ext_write (List.mem_of_getElem? ea1)) (r1.write ea1 (q.append qw)) (re1.ext r1 (ext_write (List.mem_of_getElem? ea1)))
          · exact hb1.elim
        · exact hb1.elim
      · exact hb.elim
    · cases h
  | .sti i j x, st, h => by
    unfold mS at h
    split at h
    · rename_i y p1 kk p2 e pp
      simp only [Bool.and_eq_true] at h
      obtain ⟨⟨⟨⟨h1, h2⟩, h3⟩, h4⟩, h5⟩ := h
      refine PS.imp (ps_asg (sE x X sc true E e C h5) (pg_sub (sE (.var i) X sc true E _ C h3) (sE j X sc true E kk C h4) set_list (assignSub h1)) (swapSole_no h2) rfl rfl) fun D σ H q => ?_
      obtain ⟨S, e, h, r, re, hb⟩ := q
      unfold exS at hb
      refine onS r re hb fun b S1 H1 w x1 r1 re1 rb hb1 => ?_
      split at hb1
      · rename_i n hn
        refine ⟨S1, e, h, r1, re1, ?_⟩
        unfold evE
        rw [hn]
        intro S2 H2 x2 r2 v rv
        obtain ⟨a', ea', rfl⟩ := rv
        refine onS r2 (re1.ext r1 x2) (F.All.imp (fun z pz => pz.up x2 z) hb1) fun c S3 H3 u x3 r3 re3 rc hb3 => ?_
        split at hb3
        · rename_i d k' xs hd
          split at hb3
          · rename_i m' hm
            obtain ⟨a1, ea1, vs, hv, q⟩ := r3.obj n _ hd
            have haa : a1 = a' := by
              obtain ⟨ns, e2⟩ := x3.as
              rw [e2, List.getElem?_append_left (List.getElem?_eq_some_iff.mp ea').1, ea'] at ea1
              exact (Option.some.inj ea1).symm
            subst haa
            have hu : u = .int k' := by have := rc; unfold RW RV at this; exact this
            refine ⟨a1, vs, k', m', rfl, hu, hv, by rw [q.length]; exact hm, ?_⟩
            exact hb3 S3 σ _ (ext_write (List.mem_of_getElem? ea1)) (r3.write ea1 (q.set m' (RW.ext r1 (x2.trans x3) (.d d) w rb))) (re3.ext r3 (ext_write (List.mem_of_getElem? ea1)))
          · exact hb3.elim
        · exact hb3.elim
      · exact hb1.elim
    · cases h
  | .ife c a b, st, h => by
    unfold mS at h
    split at h
    · rename_i t x y pp
      simp only [Bool.and_eq_true] at h
      refine PS.imp (ps_if (sT c X sc true E t C h.1.1) (sSs C po a x h.1.2) (sSs C po b y h.2)) fun D σ H q => ?_
      obtain ⟨S, e, h, r, re, hb⟩ := q
      unfold exS at hb
      refine onST r re hb fun k S1 H1 x1 r1 re1 hb1 => ?_
      cases k with
      | true => exact iteT ⟨S1, e, h, r1, re1, hb1⟩
      | false => exact iteF ⟨S1, e, h, r1, re1, hb1⟩
    · cases h
  | .whl c b, st, h => by
    unfold mS at h
    split at h
    · rename_i t x pp
      rw [Bool.and_eq_true] at h
      refine PS.imp (ps_while po (sT c X sc true E t C h.1) (sSs C po b x h.2)) fun D σ H q => ?_
      obtain ⟨S, e, h, r, re, hb⟩ := q
      unfold exS at hb
      exact whl_ok r re wn hb
    · cases h
  | .for_ tg it b, st, h => by
    unfold mS at h
    split at h
    · rename_i t iter x pp
      simp only [Bool.and_eq_true] at h
      obtain ⟨⟨⟨h1, h2⟩, h3⟩, h4⟩ := h
      refine PS.imp (ps_for po C.calm (sI it X sc true E t iter C h3) (sTg C tg t h2) (sSs C po b x h4) (folded h1)) fun D σ H q => ?_
      obtain ⟨S, e, h, r, re, hb⟩ := q
      unfold exS at hb
      split at hb
      · rename_i hown
        refine onSI r re hb fun xs S1 H1 J x1 r1 re1 it1 hb1 => ?_
        refine for_ok r1 re1 ⟨fun i S2 H2 h2 _ => it1.go i S2 H2 h2 ?_, fun S2 H2 h2 _ => it1.stop S2 H2 h2 ?_, fun i S2 H2 h2 x H' _ => it1.yld i S2 H2 h2 x H' ?_⟩ hb1
        all_goals (intro z; rw [hown] at z; cases z)
      · exact hb.elim
    · cases h
  | .forr tg i b, st, h => by
    unfold mS at h
    split at h
    · rename_i t iter x pp
      simp only [Bool.and_eq_true] at h
      obtain ⟨⟨⟨h1, h2⟩, h3⟩, h4⟩ := h
      refine PS.imp (ps_for po C.calm (pi_list (sE (.var i) X sc true E iter C h3)) (sTg C tg t h2) (sSs C po b x h4) (folded h1)) fun D σ H q => ?_
      obtain ⟨S, e, h, r, re, hb⟩ := q
      unfold exS at hb
      split at hb
      · rename_i n hn
        split at hb
        · rename_i ys hy
          refine ⟨S, e, h, r, re, ?_⟩
          unfold evE
          rw [hn]
          intro S1 H1 x1 r1 v rv
          obtain ⟨a, ea, rfl⟩ := rv
          obtain ⟨vs0, hv0⟩ := r1.inAs (List.mem_of_getElem? ea)
          exact ⟨a, rfl, ⟨vs0, SqL.of hv0⟩, forr_ok r1 (re.ext r x1) ea (F.All.imp (fun z pz => pz.up x1 z) hb)⟩
        · exact hb.elim
      · exact hb.elim
    · cases h
  | .ret x, st, h => by
    unfold mS at h
    split at h
    · rename_i e pp
      refine PS.imp (ps_ret (sE x X sc true E e C h)) fun D σ H q => ?_
      obtain ⟨S, e, h, r, re, hb⟩ := q
      unfold exS at hb
      refine onS r re hb fun a S1 H1 v x1 r1 re1 ra hb1 => hb1 S1 v H1 (Ext.refl _ _) r1 ra
    · cases h
  | .retn, st, h => by
    unfold mS at h
    split at h
    · refine PS.imp ps_retN fun D σ H q => ?_
      obtain ⟨S, e, h, r, re, hb⟩ := q
      unfold exS at hb
      exact hb S .non H (Ext.refl _ _) r (by unfold RW RV; rfl)
    · cases h
  | .rai c, st, h => by
    unfold mS at h
    split at h
    · rename_i x p1 m kk p2 p3 pp
      simp only [Bool.and_eq_true, decide_eq_true_eq] at h
      obtain ⟨⟨⟨h1, h2⟩, h3⟩, h4⟩ := h
      obtain ⟨Cc, gC, q1, q2, q3, q4⟩ := C.W.exc c h1
      have gC' := gC
      rw [h2] at gC'
      refine PS.imp (ps_raise C.calm C.tk (pmk_own PySem.F.excBase_ValueError q1 gC' q2 (raises_own q3 q4) (C.gl h3) (nodbg_ok h4).1)) fun D σ H q => ?_
      obtain ⟨S, e, h, r, re, hb⟩ := q
      unfold exS at hb
      exact hb S H h (Ext.refl _ _) r Cc gC
    · cases h
  | .exp x, st, h => by
    unfold mS at h
    split at h
    · rename_i e pp
      rw [Bool.and_eq_true] at h
      refine PS.imp (ps_expr (sE x X sc true E e C h.2) (swaps_no h.1)) fun D σ H q => ?_
      obtain ⟨S, e, h, r, re, hb⟩ := q
      unfold exS at hb
      exact onS r re hb fun a S1 H1 v x1 r1 re1 ra hb1 => hb1 S1 σ H1 (Ext.refl _ _) r1 re1
    · cases h
  | .brk, st, h => by
    unfold mS at h
    split at h
    · refine PS.imp ps_break fun D σ H q => ?_
      obtain ⟨S, e, h, r, re, hb⟩ := q
      unfold exS at hb
      exact hb S σ H (Ext.refl _ _) r re
    · cases h
  | .cnt, st, h => by
    unfold mS at h
    split at h
    · refine PS.imp ps_continue fun D σ H q => ?_
      obtain ⟨S, e, h, r, re, hb⟩ := q
      unfold exS at hb
      exact hb S σ H (Ext.refl _ _) r re
    · cases h
theorem sSs (C : Cok X N sc true E k G gc cl) (po : PassesOwn (model X.prog X.w) X.A X.env X.xe) : ∀ (s : Ss) (st : List Stmt), mSs G N sc s st = true → PSs X st (tSs X.K X.mg G gc cl wn E s)
  | .nil, st, h => by
    unfold mSs at h
    split at h
    · refine PSs.imp pss_nil fun D σ H q => ?_
      obtain ⟨S, e, h, r, re, hb⟩ := q
      unfold exSs at hb
      exact hb S σ H (Ext.refl _ _) r re
    · cases h
  | .cons s ss, st, h => by
    unfold mSs at h
    split at h
    · rename_i t ts
      rw [Bool.and_eq_true] at h
      refine PSs.imp (pss_cons (sS C po s t h.1) (sSs C po ss ts h.2)) fun D σ H q => ?_
      obtain ⟨S, e, h, r, re, hb⟩ := q
      unfold exSs at hb
      refine ⟨S, e, h, r, re, F.All.imp (fun f p => ?_) (F.All_bind.mp hb)⟩
      cases f with
      | nx e1 h1 => exact fun S' σ' H' x' r' re' => ⟨S', e1, h1, r', re', F.All.imp (fun z pz => pz.up x' z) p⟩
      | rt v h1 => exact p
      | bk e1 h1 => exact p
      | ct e1 h1 => exact p
      | ex c => exact p
    · cases h
end
end
end Bk
/-! BkM: a def keeps its promise. -/
namespace Bk
open PySem PySem.Spec PyProof.Rows L2
section
variable {K : PySem.W.Frag} {S S1 : Sg} {H H1 : Hp} {h : Hq}
/-- at the end of a def: its own lists never change any more -/
theorem ext_end (e : S.as = []) (x : Ext S H S1 H1) : Ext S H (S1.callee true) H1 where
  as := ⟨[], by rw [e]; rfl⟩
  kp := x.kp
  na := fun a o q n m => by cases m
  fz := fun a m => .inl (x.fz a m)
  nf := fun a o q n m => by
    rcases m with m | ⟨_, m⟩
    · exact x.nf a o q n m
    · have := x.na a o q n m
      rw [e] at this
      cases this
  fr := x.fr
  sc := x.sc
  tw := x.tw
  nt := x.nt
theorem RW.callee (r : RelH K S H h) {v : Vv} {d : D} {w : V} (q : RW K S H v w) (e : rdV h v = some d) : RV K (S.callee true) H d w := by
  have z := RWs.callee (c := true) r (vs := [v]) (ds := [d]) (ws := [w]) (fun _ => rfl) ⟨w, [], rfl, q, rfl⟩ (by simp [rdVs, e])
  obtain ⟨v, t, e2, z, _⟩ := RVs.of_cons z
  cases e2
  exact z
theorem relE_start {ds : List D} {vs : List V} {N : List Str} {m : Nat} (hm : ds.length + m = N.length) (rv : RVs K S H ds vs) : RelE K S H (ds.map (fun d => some (Vv.d d)) ++ List.replicate m none) (start N vs) where
  len := by
    have := rv.length
    unfold L2.start
    simp
    omega
  sl := fun i x e => by
    have hl := rv.length
    by_cases hi : i < ds.length
    · rw [List.getElem?_append_left (by simpa using hi), List.getElem?_map, List.getElem?_eq_getElem hi] at e
      cases e
      obtain ⟨v, e2, q⟩ := rv.get (List.getElem?_eq_getElem hi)
      refine ⟨v, ?_, q⟩
      unfold L2.start
      rw [List.getElem?_append_left (by rw [List.length_map, hl]; exact hi), List.getElem?_map, e2]
      rfl
    · rw [List.getElem?_append_right (by simpa using Nat.le_of_not_lt hi), List.getElem?_replicate] at e
      split at e
      · cases e
      · cases e
end
section
variable {P : Program} {w : World} {K : PySem.W.Frag} {mg : Str → Option Value} {base : Heap} {G : Nm} {gc : Gc} {T : Tab} {wn k i : Nat} {x qual : Str} {params : Arguments} {body : List Stmt} {sc : Scope} {f : Addr} {fd : FuncData} {N : List Str} {g : Fn}
theorem end_ok {S : Sg} {H : Hp} {Q : VK} {E : XK} (e : S.as = []) : ∀ fl : Fl, (endD fl).All (PoC K mg G S H Q E) → PoS K mg G S H { nx := fun _ H' => Q .non H', rt := Q } E fl
  | .nx e1 h1, p => fun S' σ' H' x' r' re' => p (S'.callee true) .non H' (ext_end e x') rfl (r'.callee true) (by unfold RV; rfl)
  | .rt v h1, p => fun S' u H' x' r' q => by
    have p : (match rdV h1 v with
      | some d => ok d
      | none => .stk : M D).All (PoC K mg G S H Q E) := p
    split at p
    · rename_i d ed
      exact p (S'.callee true) u H' (ext_end e x') rfl (r'.callee true) (RW.callee r' q ed)
    · exact p.elim
  | .bk _ _, p => p.elim
  | .ct _ _, p => p.elim
  | .ex c, p => fun S' H' h' x' r' => p (S'.callee true) H' (ext_end e x') rfl (r'.callee true)
/-- the def's code object and its table, where a lambda may stand in its text -/
theorem lam_ok (F : FunD K x qual params body sc [] [] f fd) {cdv : Value} {oc : Value} {od : Option Addr} {dV kV doc pm ct : Value} {an : Option Addr} {osl : Array (Option Value)} (lk : K.lookup f = some ⟨oc, od, .func (PySem.W.fnOf x qual params body sc dV kV doc pm an cdv ct), osl⟩) (hcd : PySem.W.codeIn K cdv qual = true)
    (hx : x = qual ∧ f = He.fAd K (x, none) ∧ x ∈ tdf K) (ht : ∀ x ∈ tdf K, LamX.TabB base mg (He.cT K (x, none)).1 (He.cT K (x, none)).2) : ∃ c P, LamX.TabB base mg c P ∧ cdv = .ref c ∧ (P, (qual ++ ".<locals>.") ++ "<lambda>") ∈ tbl K := by
  obtain ⟨rfl, rfl, hx⟩ := hx
  obtain ⟨c, rfl⟩ := He.codeIn_ref hcd
  have ec : He.codeOf K (x, none) = c := He.codeOf_eq lk rfl
  have e2 : He.cT K (x, none) = (c, He.tabOf K c) := by unfold He.cT; rw [ec]
  have := ht x hx
  rw [e2] at this
  refine ⟨c, He.tabOf K c, this, rfl, List.mem_map.mpr ⟨x, hx, ?_⟩⟩
  rw [e2]
  rfl
theorem fn_ok (F : FunD K x qual params body sc [] [] f fd) (Sc : FnScope N (G.fps i) sc) (hm : mSs G N sc g.body body = true) (hnp : g.np = (G.fps i).length) (hns : g.ns = N.length) (hT : T.lookup i = some (.fn g)) (hx : G.lm = true → x = qual ∧ f = He.fAd K (x, none) ∧ x ∈ tdf K)
    (W : Wok P w K mg base k G gc (callF gc T wn k)) : FnOk P w K mg base (L2.CX P w) (3 * (k + 1)) f fd (G.fps i) (spC K mg G (callF gc T wn (k + 1)) i) := by
  have F' := F
  obtain ⟨oc, od, dV, kV, doc, pm, an, cdv, ct, osl, rfl, lk, hcd, hD, hK⟩ := F'.ex
  refine ⟨fun vs H Q E h => h.1, fun A outer s H args us vs Q E hr e0 hb rv0 h => LamX.run_ofS (CX := L2.CX P w) (N := N) (ps := G.fps i) (k := 3 * k + 2) lk hcd Sc hr e0 hb rv0 h.1 fun hr' => ⟨tSs K mg G gc (callF gc T wn k) wn E g.body, ?_, ?_⟩⟩
  · exact sSs (X := cxOf (L2.CX P w) P w K mg base N qual sc f cdv A outer s H E) (N := N) (sc := sc) (E := E) (k := k) ⟨rfl, Sc.nd, rfl, rfl, hr'.mono (by omega), fun _ => hr', fun hl => lam_ok F lk hcd (hx hl) W.tab, takes_of rfl rfl rfl rfl, fun _ _ => rfl, W⟩ (passes_of rfl) g.body body hm
  · obtain ⟨hl, S, ds, has, r, rv, hb⟩ := h
    unfold callF at hb
    rw [hT] at hb
    have hb : (runF gc (callF gc T wn k) wn g ds).All (PoC K mg G S H Q E) := hb
    unfold runF at hb
    split at hb
    · rename_i hle
      have hle := Nat.eq_of_beq_eq_true hle
      refine ⟨S, _, [], r, relE_start ?_ rv, Bk.F.All.imp (end_ok has) (Bk.F.All_bind.mp hb)⟩
      have h2 : (G.fps i).length ≤ N.length := by
        have := congrArg List.length Sc.pre
        rw [List.length_take] at this
        omega
      omega
    · exact hb.elim
theorem fn_zero (i : Nat) : FnOk P w K mg base (L2.CX P w) (3 * 0) f fd (G.fps i) (spC K mg G (callF gc T wn 0) i) :=
  ⟨fun vs H Q E h => h.1, fun A outer s H args us vs Q E _ _ _ _ h => by
    obtain ⟨_, S, ds, _, _, _, hb⟩ := h
    exact hb.elim⟩
end
end Bk
/-! BkN: the draws. -/
namespace Bk
open PySem PySem.Spec PyProof.Rows L2
abbrev drwB (p1 p2 p3 p4 p5 p6 p7 p8 p9 p10 p11 p12 p13 p14 p15 p16 p17 p18 p19 p20 p21 p22 p23 p24 p25 p26 p27 p28 p29 p30 p31 p32 p33 p34 p35 p36 p37 p38 p39 p40 p41 p42 p43 p44 p45 p46 p47 p48 p49 p50 p51 p52 p53 p54 p55 p56 p57 p58 p59 p60 p61 p62 p63 p64 p65 p66 p67 p68 p69 p70 p71 p72 p73 p74 p75 p76 p77 p78 p79 p80 p81 p82 p83 p84 p85 p86 : Pos) : List Stmt :=
  [.Assign [(.Subscript (.Name "town" p1) (.Constant (.str "count") 0 p2) p3)] (.BinOp (.Subscript (.Name "town" p4) (.Constant (.str "count") 0 p5) p6) .Add (.Constant (.int 1) 0 p7) p8) p9,
   .Assign [(.Name "at" p10)] (.IfExp (.Name "script" p11) (.BinOp (.Subscript (.Name "town" p12) (.Constant (.str "count") 0 p13) p14) .Mod (.Call (.Name "len" p15) [(.Name "script" p16)] [] p17) p18) (.Constant (.int 0) 0 p19) p20) p21,
   .Assign [(.Name "rest" p22)] (.Call (.Attribute (.Subscript (.Name "town" p23) (.Constant (.str "rests") 0 p24) p25) "get" p26) [(.Name "at" p27), (.IfExp (.Name "script" p28) (.Subscript (.Name "script" p29) (.Name "at" p30) p31) (.Constant (.int 0) 0 p32) p33)] [] p34) p35,
   .If (.Compare (.Name "rest" p36) [.GtE] [(.BinOp (.Constant (.int 10) 0 p37) .Pow (.Constant (.int 18) 0 p38) p39)] p40) [.Assign [(.Subscript (.Subscript (.Name "town" p41) (.Constant (.str "rests") 0 p42) p43) (.Name "at" p44) p45)] (.BinOp (.Name "rest" p46) .FloorDiv (.Name "many" p47) p48) p49, .Return (some (.BinOp (.Name "rest" p50) .Mod (.Name "many" p51) p52)) p53] [] p54,
   .Assign [(.Name "number" p55)] (.BinOp (.BinOp (.Name "rest" p56) .Add (.BinOp (.Constant (.int 104729) 0 p57) .Mult (.Subscript (.Name "town" p58) (.Constant (.str "count") 0 p59) p60) p61) p62) .Mod (.Constant (.int 4294967291) 0 p63) p64) p65,
   .Assign [(.Name "number" p66)] (.BinOp (.BinOp (.Name "number" p67) .Pow (.Constant (.int 5) 0 p68) p69) .Mod (.Constant (.int 4294967279) 0 p70) p71) p72,
   .Return (some (.BinOp (.BinOp (.BinOp (.BinOp (.BinOp (.BinOp (.Name "number" p73) .FloorDiv (.Constant (.int 64) 0 p74) p75) .Mult (.Constant (.int 69621) 0 p76) p77) .Add (.Name "number" p78) p79) .Mod (.Constant (.int 4294967231) 0 p80) p81) .FloorDiv (.Constant (.int 8) 0 p82) p83) .Mod (.Name "many" p84) p85)) p86]
abbrev begB (p1 p2 p3 p4 p5 p6 : Pos) : List Stmt :=
  [.Return (some (.Dict [some (.Constant (.str "count") 0 p1), some (.Constant (.str "rests") 0 p2)] [(.Constant (.int 0) 0 p3), (.Dict [] [] p4)] p5)) p6]

abbrev kCount : Key := Sum.inr (Str.ofString "count")
abbrev kRests : Key := Sum.inr (Str.ofString "rests")
theorem kv_ne : (kRests = kCount) = False := by
  apply eq_false
  intro h
  have h2 := Sum.inr.inj h
  revert h2
  decide +kernel
theorem town_count {c : Nat} {b : Addr} : valV [(kCount, V.int c), (kRests, V.ref b)] kCount = some (.int c) := valV_pos rfl
theorem town_rests {v : V} {b : Addr} : valV [(kCount, v), (kRests, V.ref b)] kRests = some (.ref b) := by
  rw [valV_neg (by intro h; have := kv_ne; rw [show (kRests = kCount) = True from eq_true h.symm] at this; exact absurd this (by simp))]
  exact valV_pos rfl
theorem town_put {c d : V} {b : Addr} : putK [(kCount, c), (kRests, V.ref b)] kCount d = [(kCount, d), (kRests, .ref b)] := by
  unfold putK
  have h1 : (decide (kRests = kCount)) = false := by rw [decide_eq_false_iff_not]; intro h; have := kv_ne; rw [show (kRests = kCount) = True from eq_true h] at this; exact absurd this (by simp)
  have h2 : ¬ kRests = kCount := of_decide_eq_false h1
  simp [h2]
theorem scr_sq {K : PySem.W.Frag} {S : Sg} {H : Hp} {a : Addr} {ns : List Int} (h : (∃ o, H a = some (.frz o (.lst (ns.map V.int)))) ∨ (H a = some (.lst (ns.map V.int)) ∧ S.fz a) ∨
  ∃ (o : Obj) (its : Array Value) (n : Nat), K.lookup a = some o ∧ o.cls = .type "list" ∧ o.dict = none ∧ o.data = .seq its n ∧ its.size ≤ sizeLine ∧ Vals (ns.map V.int) its.toList) : SqL K H a (ns.map V.int) := by
  rcases h with h | h | h
  · exact .inl (.inr h)
  · exact .inl (.inl h.1)
  · exact .inr h
/-- the state behind a draw -/
theorem town_ext {K : PySem.W.Frag} {S : Sg} {H H' : Hp} {t b : Addr} {c : Nat} {rs : List (Key × V)} (has : S.as = []) (r : RelH K S H []) (ht : S.tw t b) (h0 : ∃ c0 rs0, H t = some (.dK [(kCount, .int (c0 : Nat)), (kRests, .ref b)]) ∧ H b = some (.dK rs0) ∧ RestOk rs0) (h1 : H' t = some (.dK [(kCount, .int c), (kRests, .ref b)])) (h2 : H' b = some (.dK rs)) (hr : RestOk rs) (hk : ∀ a, a ≠ t → a ≠ b → H' a = H a) : Ext S H S H' ∧ RelH K S H' [] := by
  have x : Ext S H S H' := by
    refine ⟨⟨[], by simp⟩, fun a o e no => ?_, fun _ _ _ _ h => h, fun _ h => h, fun _ _ _ _ h => h, fun a o e _ _ n => ?_, rfl, fun _ _ h => h, fun _ _ _ _ h => h⟩
    · by_cases e1 : a = t
      · rw [e1]; exact ⟨_, h1, nt_dK⟩
      · by_cases e2 : a = b
        · rw [e2]; exact ⟨_, h2, nt_dK⟩
        · rw [hk a e1 e2]; exact ⟨o, e, no⟩
    · rw [hk a (fun e1 => n ⟨t, b, ht, .inl e1⟩) (fun e1 => n ⟨t, b, ht, .inr e1⟩)]
      exact e
  refine ⟨x, r.len, r.nd, fun n o e => by simp at e, r.sep, r.keepS x r.scr, fun t' b' e => ?_, fun a m => ?_, tabs_keep r.tab fun a o e hu => ?_⟩
  · obtain ⟨c0, rs0, g1, g2, g3⟩ := h0
    obtain ⟨c', rs', g1', g2', g3'⟩ := r.twn t' b' e
    by_cases et : t' = t
    · subst et
      rw [g1] at g1'
      cases g1'
      exact ⟨c, rs, h1, h2, hr⟩
    · have etb : t' ≠ b := fun z => by
        rw [z, g2] at g1'
        have h1 := HO.dK.inj (Option.some.inj g1')
        obtain ⟨j, m, e2, _⟩ := g3.2 (kCount, V.int c') (by rw [h1]; exact List.mem_cons_self)
        cases e2
      by_cases eb : b' = b
      · subst eb
        exact ⟨c', rs, by rw [hk t' et etb]; exact g1', h2, hr⟩
      · have ebt : b' ≠ t := fun z => by
          rw [z, g1] at g2'
          have h1 := HO.dK.inj (Option.some.inj g2')
          obtain ⟨j, m, e2, _⟩ := g3'.2 (kCount, V.int c0) (by rw [← h1]; exact List.mem_cons_self)
          cases e2
        exact ⟨c', rs', by rw [hk t' et etb]; exact g1', by rw [hk b' ebt eb]; exact g2', g3'⟩
  · obtain ⟨o, q, n⟩ := r.fzs a m
    exact x.kp a o q n
  · obtain ⟨c0, rs0, g1, g2, g3⟩ := h0
    rw [hk a (fun z => ?_) (fun z => ?_)]
    · exact e
    · rw [z, g1] at e
      cases e
      rcases hu with ⟨_, hu⟩ | ⟨_, hu⟩ <;> cases hu
    · rw [z, g2] at e
      cases e
      rcases hu with ⟨_, hu⟩ | ⟨_, hu⟩ <;> cases hu
theorem rest_put {rs : List (Key × V)} {j : Nat} {n : Int} (h : RestOk rs) (hj : j < 63) : RestOk (putK rs (Sum.inl (j : Int)) (.int n)) := by
  obtain ⟨nd, h⟩ := h
  unfold putK
  split
  · rename_i ha
    refine ⟨?_, fun p hp => ?_⟩
    · rw [List.map_map]
      have : (rs.map ((fun x : Key × V => x.1) ∘ fun kv => if kv.1 = Sum.inl (j : Int) then (kv.1, V.int n) else kv)) = rs.map (·.1) := by
        apply List.map_congr_left
        intro a _
        simp only [Function.comp]
        split <;> rfl
      rw [this]
      exact nd
    · obtain ⟨q, hq, e⟩ := List.mem_map.mp hp
      obtain ⟨i, m, e2, hi⟩ := h q hq
      split at e
      · rename_i hh
        exact ⟨j, n, by rw [← e, hh], hj⟩
      · exact ⟨i, m, by rw [← e]; exact e2, hi⟩
  · rename_i ha
    refine ⟨?_, fun p hp => ?_⟩
    · rw [List.map_append, List.nodup_append]
      refine ⟨nd, by simp, fun a h1 b h2 e => ?_⟩
      obtain ⟨q, hq, e2⟩ := List.mem_map.mp h1
      simp at h2
      apply ha
      rw [List.any_eq_true]
      exact ⟨q, hq, by rw [decide_eq_true_iff]; rw [e2, e, h2]⟩
    · rcases List.mem_append.mp hp with hp | hp
      · exact h p hp
      · simp at hp
        exact ⟨j, n, hp, hj⟩
theorem nodup_le {α : Type} [DecidableEq α] : ∀ {l m : List α}, l.Nodup → (∀ a ∈ l, a ∈ m) → l.length ≤ m.length
  | [], m, _, _ => Nat.zero_le _
  | a :: l, m, nd, h => by
    obtain ⟨n1, n2⟩ := List.nodup_cons.mp nd
    have hm := h a List.mem_cons_self
    have := nodup_le (l := l) (m := m.erase a) n2 fun b hb => (List.mem_erase_of_ne (fun e => n1 (by rw [← e]; exact hb))).mpr (h b (List.mem_cons_of_mem _ hb))
    rw [List.length_erase_of_mem hm] at this
    have := List.length_pos_of_mem hm
    rw [List.length_cons]
    omega
theorem rest_len {rs : List (Key × V)} (h : RestOk rs) : rs.length < sizeLine := by
  obtain ⟨nd, h⟩ := h
  have h1 : rs.map (·.1) ⊆ (List.range 63).map fun i : Nat => (Sum.inl (i : Int) : Key) := fun k hk => by
    obtain ⟨q, hq, e⟩ := List.mem_map.mp hk
    obtain ⟨i, m, e2, hi⟩ := h q hq
    exact List.mem_map.mpr ⟨i, List.mem_range.mpr hi, by rw [← e, e2]⟩
  have h2 := nodup_le nd fun a ha => h1 ha
  rw [List.length_map, List.length_map, List.length_range] at h2
  rw [sizeLine_eq]
  omega
theorem rest_val {rs : List (Key × V)} {k : Key} {v : V} (h : RestOk rs) (e : valV rs k = some v) : ∃ n : Int, v = .int n := by
  unfold valV at e
  cases q : rs.find? fun kv => decide (kv.1 = k) with
  | none => rw [q] at e; cases e
  | some p =>
    rw [q] at e
    obtain ⟨i, n, e2, _⟩ := h.2 p (List.mem_of_find?_eq_some q)
    cases e
    exact ⟨n, by rw [e2]⟩
section
variable {P : Program} {w : World} {K : PySem.W.Frag} {mg : Str → Option Value} {base : Heap} {G : Nm} {gc : Gc} {T : Tab} {wn k i : Nat} {x qual : Str} {params : Arguments} {bd : List Stmt} {sc : Scope} {f : Addr} {fd : FuncData}
abbrev drwN : List Str := ["script", "town", "many", "at", "rest", "number"]
abbrev drwP : List Str := ["script", "town", "many"]
def tTru (K : PySem.W.Frag) (ta : TE) : TT := fun σ H Q => ta σ H fun x H' => ∃ k, TruV K x H' k ∧ Q k H'
/-- the place in the script -/
theorem at_ok {σ : L2.St} {H : Hp} {s t b : Addr} {c : Nat} {ns : List Int} (e0 : σ[0]? = some (some (.ref s))) (e1 : σ[1]? = some (some (.ref t))) (hs : SqL K H s (ns.map V.int)) (hn : ns.length ≤ 63) (ht : H t = some (.dK [(kCount, .int c), (kRests, .ref b)])) :
    ∃ j : Nat, j < 63 ∧ (ns = [] ∨ j < ns.length) ∧ ∀ Q : VK, Q (.int j) H → tIf (tTru K (tVar 0)) (tOp (rI (fun _ j => 0 < j) fun i j => .int (i % j)) (tDGet (tVar 1) (tC (.str "count"))) (tCB (fun xs H Q => ∃ x n, xs = [x] ∧ LenV K x H n ∧ Q (.int n) H) (tCons (tVar 0) tNil))) (tC (.int 0)) σ H Q := by
  cases ns with
  | nil => exact ⟨0, by omega, .inl rfl, fun Q q => ⟨_, e0, false, .inl ⟨_, hs, rfl⟩, iteF q⟩⟩
  | cons a r =>
    have hl : 0 < (a :: r).length := Nat.succ_pos _
    refine ⟨c % (a :: r).length, Nat.lt_of_lt_of_le (Nat.mod_lt _ hl) hn, .inr (Nat.mod_lt _ hl), fun Q q => ⟨_, e0, true, .inl ⟨_, hs, rfl⟩, iteT ?_⟩⟩
    have g := DGet.k (k := kCount) ht
    rw [town_count] at g
    refine ⟨_, e1, t, .int c, rfl, g, _, e0, _, ((a :: r).map V.int).length, rfl, .inl ⟨_, hs, rfl⟩, c, _, rfl, rfl, ?_, ?_⟩
    · rw [List.length_map]
      omega
    · rw [List.length_map]
      exact q
theorem rest_ok {σ : L2.St} {H : Hp} {s t b : Addr} {c : V} {rs : List (Key × V)} {ns : List Int} {j : Nat} (e0 : σ[0]? = some (some (.ref s))) (e1 : σ[1]? = some (some (.ref t))) (e3 : σ[3]? = some (some (.int j))) (hs : SqL K H s (ns.map V.int)) (hj : ns = [] ∨ j < ns.length)
    (ht : H t = some (.dK [(kCount, c), (kRests, .ref b)])) (hb : H b = some (.dK rs)) (hr : RestOk rs) :
    ∃ m : Int, ∀ Q : VK, Q (.int m) H → tDGet2 (tDGet (tVar 1) (tC (.str "rests"))) (tVar 3) (tIf (tTru K (tVar 0)) (tOp (rIxL K) (tVar 0) (tVar 3)) (tC (.int 0))) σ H Q := by
  have g := DGet.k (k := kRests) ht
  rw [town_rests] at g
  have gb := DGet.k (k := Sum.inl (j : Int)) hb
  obtain ⟨z, hz⟩ : ∃ z : Int, ∀ Q : VK, Q (.int z) H → tIf (tTru K (tVar 0)) (tOp (rIxL K) (tVar 0) (tVar 3)) (tC (.int 0)) σ H Q := by
    cases ns with
    | nil => exact ⟨0, fun Q q => ⟨_, e0, false, .inl ⟨_, hs, rfl⟩, iteF q⟩⟩
    | cons a r =>
      rcases hj with hj | hj
      · cases hj
      · have ea : atI ((a :: r).map V.int) (j : Int) = some (V.int ((a :: r)[j])) := by
          have hj2 : j < ((a :: r).map V.int).length := by rw [List.length_map]; exact hj
          have h1 : ixN ((a :: r).map V.int).length ((j : Nat) : Int) = some j := by
            unfold ixN
            rw [if_pos (by omega), if_pos (by omega)]
            all_goals rfl
          unfold atI
          rw [h1]
          show ((a :: r).map V.int)[j]? = _
          rw [List.getElem?_map, List.getElem?_eq_getElem hj]
          rfl
        exact ⟨(a :: r)[j], fun Q q => ⟨_, e0, true, .inl ⟨_, hs, rfl⟩, iteT ⟨_, e0, _, e3, s, _, _, _, rfl, rfl, hs, ea, q⟩⟩⟩
  cases hv : valV rs (Sum.inl (j : Int)) with
  | none =>
    rw [hv] at gb
    exact ⟨z, fun Q q => ⟨_, e1, t, _, rfl, g, b, rfl, .inl ⟨_, .inl hb⟩, _, e3, hz _ ⟨none, gb, q⟩⟩⟩
  | some v =>
    rw [hv] at gb
    obtain ⟨m, rfl⟩ := rest_val hr hv
    exact ⟨m, fun Q q => ⟨_, e1, t, _, rfl, g, b, rfl, .inl ⟨_, .inl hb⟩, _, e3, hz _ ⟨_, gb, q⟩⟩⟩
theorem drw_ok {p1 p2 p3 p4 p5 p6 p7 p8 p9 p10 p11 p12 p13 p14 p15 p16 p17 p18 p19 p20 p21 p22 p23 p24 p25 p26 p27 p28 p29 p30 p31 p32 p33 p34 p35 p36 p37 p38 p39 p40 p41 p42 p43 p44 p45 p46 p47 p48 p49 p50 p51 p52 p53 p54 p55 p56 p57 p58 p59 p60 p61 p62 p63 p64 p65 p66 p67 p68 p69 p70 p71 p72 p73 p74 p75 p76 p77 p78 p79 p80 p81 p82 p83 p84 p85 p86 : Pos} (F : FunD K x qual params bd sc [] [] f fd) (Sc : FnScope drwN drwP sc) (la : sc.names.lookup ("at" : Str) = some .local) (lr : sc.names.lookup ("rest" : Str) = some .local) (ln : sc.names.lookup ("number" : Str) = some .local) (hl : sc.names.lookup ("len" : Str) = some .globalImplicit)
    (hb : bd = drwB p1 p2 p3 p4 p5 p6 p7 p8 p9 p10 p11 p12 p13 p14 p15 p16 p17 p18 p19 p20 p21 p22 p23 p24 p25 p26 p27 p28 p29 p30 p31 p32 p33 p34 p35 p36 p37 p38 p39 p40 p41 p42 p43 p44 p45 p46 p47 p48 p49 p50 p51 p52 p53 p54 p55 p56 p57 p58 p59 p60 p61 p62 p63 p64 p65 p66 p67 p68 p69 p70 p71 p72 p73 p74 p75 p76 p77 p78 p79 p80 p81 p82 p83 p84 p85 p86) (hp : (p26.endLine == p34.line) = true) (mL : mg "len" = none) (hT : T.lookup i = some .drw) (hps : G.fps i = drwP) :
    FnOk P w K mg base (L2.CX P w) (3 * (k + 1)) f fd (G.fps i) (spC K mg G (callF gc T wn (k + 1)) i) := by
  rw [hps]
  refine F.ok (CX := L2.CX P w) Sc (fun vs H Q E h => by rw [← hps]; exact h.1) fun cdv A outer s H vs Q E hr h => ?_
  have v0 : Vis sc ("script" : Str) := vis_par Sc List.mem_cons_self
  have v1 : Vis sc ("town" : Str) := vis_par Sc (List.mem_cons_of_mem _ List.mem_cons_self)
  have v2 : Vis sc ("many" : Str) := vis_par Sc (List.mem_cons_of_mem _ (List.mem_cons_of_mem _ List.mem_cons_self))
  rw [hb]
  have hu : (A.deeper (envOfC qual sc s.heap.objs.size f cdv)).units + 1 < cLine := hu_of hr
  refine ⟨_, pss_cons (ps_dput hu (pe_var (i := 1) rfl v1) pe_str (pe_op op_add (pe_dget hu (pe_var (i := 1) rfl v1) pe_str fun _ _ => rfl) pe_int) rfl)
    (pss_cons (ps_set (i := 3) Sc.nd rfl (Or.inl la) (pe_ifExp (pt_truth (pe_var (i := 0) rfl v0) fun _ => rfl) (pe_op op_mod (pe_dget hu (pe_var (i := 1) rfl v1) pe_str fun _ _ => rfl) (pe_callB call_len hl mL boot_len (pa_cons (pe_var (i := 0) rfl v0) pa_nil))) pe_int))
    (pss_cons (ps_set (i := 4) Sc.nd rfl (Or.inl lr) (pe_dget2 hu (pe_dget hu (pe_var (i := 1) rfl v1) pe_str fun _ _ => rfl) (pe_var (i := 3) rfl (Or.inl la)) (pe_ifExp (pt_truth (pe_var (i := 0) rfl v0) fun _ => rfl) (pe_ix ix_list (pe_var (i := 0) rfl v0) (pe_var (i := 3) rfl (Or.inl la)) fun _ _ => rfl) pe_int) ⟨rfl, rfl, hp, rfl⟩))
    (pss_cons (ps_if (pt_cmpR op_ge (pe_var (i := 4) rfl (Or.inl lr)) (pe_op op_pow pe_int pe_int) rfl)
      (pss_cons (ps_dput hu (pe_dget hu (pe_var (i := 1) rfl v1) pe_str fun _ _ => rfl) (pe_var (i := 3) rfl (Or.inl la)) (pe_op op_fdiv (pe_var (i := 4) rfl (Or.inl lr)) (pe_var (i := 2) rfl v2)) rfl) (pss_one (ps_ret (pe_op op_mod (pe_var (i := 4) rfl (Or.inl lr)) (pe_var (i := 2) rfl v2))))) pss_nil)
    (pss_cons (ps_set (i := 5) Sc.nd rfl (Or.inl ln) (pe_op op_mod (pe_op op_add (pe_var (i := 4) rfl (Or.inl lr)) (pe_op op_mul pe_int (pe_dget hu (pe_var (i := 1) rfl v1) pe_str fun _ _ => rfl))) pe_int))
    (pss_cons (ps_set (i := 5) Sc.nd rfl (Or.inl ln) (pe_op op_mod (pe_op op_pow (pe_var (i := 5) rfl (Or.inl ln)) pe_int) pe_int))
    (pss_one (ps_ret (pe_op op_mod (pe_op op_fdiv (pe_op op_mod (pe_op op_add (pe_op op_mul (pe_op op_fdiv (pe_var (i := 5) rfl (Or.inl ln)) pe_int) pe_int) (pe_var (i := 5) rfl (Or.inl ln))) pe_int) pe_int) (pe_var (i := 2) rfl v2))))))))), ?_⟩
  obtain ⟨_, S, ds, has, r, rv, hb⟩ := h
  unfold callF at hb
  rw [hT] at hb
  replace hb : (drwD ds).All (PoC K mg G S H Q E) := hb
  unfold drwD at hb
  split at hb
  · rename_i n
    split at hb
    · rename_i hn
      obtain ⟨u0, r0, rfl, q0, rv⟩ := RVs.of_cons rv
      obtain ⟨u1, r1, rfl, q1, rv⟩ := RVs.of_cons rv
      obtain ⟨u2, r2, rfl, q2, rv⟩ := RVs.of_cons rv
      rw [rv.nil_iff]
      unfold RV at q0 q1 q2
      subst q0 q2
      obtain ⟨t, b, ht, rfl⟩ := q1
      obtain ⟨c, rs, h1, h2, hrs⟩ := r.twn t b ht
      obtain ⟨ns, hns, hsc⟩ := r.scr
      have htb : t ≠ b := fun e => by
        rw [e, h2] at h1
        have h1 := HO.dK.inj (Option.some.inj h1)
        obtain ⟨j, m, e2, _⟩ := hrs.2 (kCount, V.int c) (by rw [h1]; exact List.mem_cons_self)
        cases e2
      replace hb : ∀ m, m < n.toNat → PoC K mg G S H Q E (.ok (.int m)) := hb
      have g1 := DGet.k (k := kCount) h1
      rw [town_count] at g1
      have d1 := DPut.k (k := kCount) (v := .int ((c : Int) + 1)) h1 (by rw [sizeLine_eq]; show 2 < _; decide)
      rw [town_put] at d1
      generalize e1 : upd H t (.dK [(kCount, V.int ((c : Int) + 1)), (kRests, V.ref b)]) = H1 at d1
      have t1 : H1 t = some (.dK [(kCount, V.int ((c + 1 : Nat) : Int)), (kRests, V.ref b)]) := by rw [← e1]; simp [upd]
      have b1 : H1 b = some (.dK rs) := by rw [← e1]; simp [upd, Ne.symm htb, h2]
      have k1 : ∀ a, a ≠ t → H1 a = H a := fun a ha => by rw [← e1]; simp [upd, ha]
      obtain ⟨x1, r1⟩ := town_ext has r ht ⟨c, rs, h1, h2, hrs⟩ t1 b1 hrs fun a ha _ => k1 a ha
      have s1 : SqL K H1 S.sc (ns.map V.int) := by
        rcases hsc with ⟨o, hsc⟩ | hsc
        · refine .inl (.inr ⟨o, ?_⟩)
          rw [k1 S.sc fun e => by rw [e, h1] at hsc; cases hsc]
          exact hsc
        · rcases hsc with ⟨hsc, _⟩ | hsc
          · left; left
            rw [k1 S.sc fun e => by rw [e, h1] at hsc; cases hsc]
            exact hsc
          · exact .inr hsc
      refine ⟨_, rfl, t, .int c, rfl, g1, (c : Int), 1, rfl, rfl, _, rfl, t, H1, rfl, d1, ?_⟩
      obtain ⟨j, j1, j2, hat⟩ := at_ok (σ := L2.start drwN [V.ref S.sc, V.ref t, V.int n]) rfl rfl s1 hns t1
      refine hat _ ?_
      obtain ⟨m, hre⟩ := rest_ok (σ := (L2.start drwN [V.ref S.sc, V.ref t, V.int n]).set 3 (some (.int j))) (j := j) rfl rfl rfl s1 j2 t1 b1 hrs
      dsimp only [gName, tSeq, tAsg]
      refine hre _ ?_
      have fin : ∀ (H2 : Hp) (z : Int), Ext S H S H2 → RelH K S H2 [] → 0 ≤ z → z < n → Q (.int z) H2 := fun H2 z x2 r2 z0 z1 => by
        have := hb z.toNat (by omega) S (.int z) H2 x2 has r2 (by unfold RV; rw [Int.toNat_of_nonneg z0])
        exact this
      have g2 := DGet.k (k := kCount) t1
      rw [town_count] at g2
      have g3 := DGet.k (k := kRests) t1
      rw [town_rests] at g3
      refine ⟨_, rfl, 10, 18, rfl, rfl, ⟨by decide, by decide, by decide⟩, m, _, rfl, rfl, _, rfl, ?_⟩
      cases hd : decide ((10 : Int) ^ (18 : Int).toNat ≤ m) with
      | true =>
        refine iteT ?_
        have d2 := DPut.k (k := Sum.inl (j : Int)) (v := .int (m / n)) b1 (rest_len hrs)
        refine ⟨_, rfl, _, rfl, m, n, rfl, rfl, ⟨hn.1, by omega⟩, _, rfl, t, _, rfl, g3, _, rfl, b, _, rfl, d2, ?_⟩
        refine ⟨_, rfl, _, rfl, m, n, rfl, rfl, hn.1, ?_⟩
        obtain ⟨x2, r2⟩ := town_ext (H' := upd H1 b (.dK (putK rs (Sum.inl (j : Int)) (.int (m / n))))) (c := c + 1) has r ht ⟨c, rs, h1, h2, hrs⟩ (by show (if t = b then _ else H1 t) = _; rw [if_neg htb, t1]) upd_same (rest_put hrs j1) fun a ha hb => (upd_ne hb).trans (k1 a ha)
        exact fin _ _ x2 r2 (Int.emod_nonneg _ (by omega)) (Int.emod_lt_of_pos _ hn.1)
      | false =>
        refine iteF ?_
        refine ⟨_, rfl, _, rfl, t, _, rfl, g2, 104729, _, rfl, rfl, .inl ⟨by decide, by decide⟩, m, _, rfl, rfl, _, _, rfl, rfl, (show (0 : Int) < 4294967291 by decide), ?_⟩
        refine ⟨_, rfl, _, _, rfl, rfl, ⟨by decide, by decide, ?_⟩, _, _, rfl, rfl, (show (0 : Int) < 4294967279 by decide), ?_⟩
        · have a1 := Int.emod_nonneg (m + 104729 * ((c + 1 : Nat) : Int)) (b := 4294967291) (by decide)
          have a2 := Int.emod_lt_of_pos (m + 104729 * ((c + 1 : Nat) : Int)) (b := 4294967291) (by decide)
          omega
        · refine ⟨_, rfl, _, _, rfl, rfl, ⟨by decide, by decide⟩, _, _, rfl, rfl, .inr ⟨by decide, by decide⟩, _, rfl, _, _, rfl, rfl, _, _, rfl, rfl, (show (0 : Int) < 4294967231 by decide), _, _, rfl, rfl, ⟨by decide, by decide⟩, _, rfl, _, _, rfl, rfl, hn.1, ?_⟩
          exact fin _ _ x1 r1 (Int.emod_nonneg _ (by omega)) (Int.emod_lt_of_pos _ hn.1)
    · exact hb.elim
  · exact hb.elim
theorem beg_ok {p1 p2 p3 p4 p5 p6 : Pos} (F : FunD K x qual params bd sc [] [] f fd) (Sc : FnScope [] [] sc) (hb : bd = begB p1 p2 p3 p4 p5 p6) (hT : T.lookup i = some .beg) (hps : G.fps i = []) :
    FnOk P w K mg base (L2.CX P w) (3 * (k + 1)) f fd (G.fps i) (spC K mg G (callF gc T wn (k + 1)) i) := by
  rw [hps]
  refine F.ok (CX := L2.CX P w) Sc (fun vs H Q E h => by rw [← hps]; exact h.1) fun cdv A outer s H vs Q E hr h => ?_
  rw [hb]
  refine ⟨_, pss_one (ps_ret (pe_disp (pps_cons pe_str pe_int (pps_cons pe_str pe_dnewK pps_nil)) rfl rfl (by simp) (by show 2 ≤ 15; decide))), ?_⟩
  obtain ⟨_, S, ds, has, r, rv, hb⟩ := h
  unfold callF at hb
  rw [hT] at hb
  cases ds with
  | cons d ds => exact hb.elim
  | nil =>
    rw [rv.nil_iff]
    replace hb : PoC K mg G S H Q E (.ok (.opq 1)) := hb
    intro t nt b nb
    have nb' : H b = none := by
      have nb : (upd H t (.dK [])) b = none := nb
      unfold upd at nb
      split at nb
      · cases nb
      · exact nb
    have hbt : b ≠ t := fun e => by
      have nb : (upd H t (.dK [])) b = none := nb
      rw [e] at nb
      simp [upd] at nb
    refine ⟨by simp [upd, Ne.symm hbt], [(kCount, .int 0), (kRests, .ref b)], rfl, by show 2 ≤ 15; decide, ?_⟩
    have em : mergeK [] [(kCount, V.int 0), (kRests, V.ref b)] = [(kCount, V.int 0), (kRests, V.ref b)] := by
      have h1 : ¬ kCount = kRests := fun h => by have := kv_ne; rw [eq_true h.symm] at this; exact absurd this (by simp)
      simp [mergeK, putK, h1]
    rw [em]
    have kk : ∀ a o, H a = some o → a ≠ t ∧ a ≠ b := fun a o e => ⟨fun z => (by rw [z, nt] at e; cases e), fun z => (by rw [z, nb'] at e; cases e)⟩
    have hk : ∀ a, a ≠ t → a ≠ b → upd (upd (upd H t (.dK [])) b (.dK [])) t (.dK [(kCount, V.int 0), (kRests, V.ref b)]) a = H a := fun a h1 h2 => by simp [upd, h1, h2]
    generalize eH : upd (upd (upd H t (.dK [])) b (.dK [])) t (.dK [(kCount, V.int 0), (kRests, V.ref b)]) = H1 at hk
    have t1 : H1 t = some (.dK [(kCount, V.int ((0 : Nat) : Int)), (kRests, V.ref b)]) := by rw [← eH]; simp [upd]
    have b1 : H1 b = some (.dK []) := by rw [← eH]; simp [upd, hbt]
    have kp : ∀ a o, H a = some o → H1 a = some o := fun a o e => by rw [hk a (kk a o e).1 (kk a o e).2]; exact e
    have x : Ext S H { S with tw := fun t' b' => S.tw t' b' ∨ (t' = t ∧ b' = b) } H1 := by
      refine ⟨⟨[], by simp⟩, fun a o e n => ⟨o, kp a o e, n⟩, fun _ _ _ _ h => h, fun _ h => h, fun _ _ _ _ h => h, fun a o e _ _ _ => kp a o e, rfl, fun _ _ h => .inl h, fun a o e _ m => ?_⟩
      obtain ⟨t', b', m | ⟨rfl, rfl⟩, z⟩ := m
      · exact ⟨t', b', m, z⟩
      · rcases z with z | z
        · exact absurd z (kk a o e).1
        · exact absurd z (kk a o e).2
    refine hb { S with tw := fun t' b' => S.tw t' b' ∨ (t' = t ∧ b' = b) } (.ref t) H1 x has ⟨r.len, r.nd, fun n o e => by simp at e, r.sep, r.keepS x r.scr, fun t' b' e => ?_, fun a m => ?_, r.tab.ext kp⟩ ?_
    · rcases e with e | ⟨rfl, rfl⟩
      · obtain ⟨c', rs', g1, g2, g3⟩ := r.twn t' b' e
        exact ⟨c', rs', kp _ _ g1, kp _ _ g2, g3⟩
      · exact ⟨0, [], t1, b1, List.nodup_nil, fun p hp => by cases hp⟩
    · obtain ⟨o, q, n⟩ := r.fzs a m
      exact x.kp a o q n
    · unfold RV
      exact ⟨t, b, .inr ⟨rfl, rfl⟩, rfl⟩
end
end Bk
/-! BkO: the law: its defs together, its end. -/
namespace Bk
open PySem PySem.Spec PyProof.Rows L2
section
variable {P : Program} {w : World} {K : PySem.W.Frag} {mg : Str → Option Value} {base : Heap} {G : Nm} {gc : Gc} {T : Tab} {wn : Nat}
/-- a def of the text: it stands, and keeps its promise one call deeper -/
def FOk (P : Program) (w : World) (K : PySem.W.Frag) (mg : Str → Option Value) (G : Nm) (gc : Gc) (T : Tab) (wn : Nat) (i : Nat) : Prop :=
  ∃ (fa : Addr) (fd : FuncData), mg (G.fnm i) = some (.ref fa) ∧ PySem.W.keepIn K (.ref fa) = true ∧ Binds K fd (G.fps i) [] ∧
    (i ∈ G.ks → ∀ (s : Shared) (us ws : List Value), K.In s.heap → (us ++ ws).length = (G.fps i).length → BindsTo s fd ⟨us, ((G.fps i).drop us.length).zip ws⟩ ((G.fps i).zip (us ++ ws))) ∧
    ∀ (base : Heap) (k : Nat), Wok P w K mg base k G gc (callF gc T wn k) → FnOk P w K mg base (L2.CX P w) (3 * (k + 1)) fa fd (G.fps i) (spC K mg G (callF gc T wn (k + 1)) i)
def GOk (K : PySem.W.Frag) (mg : Str → Option Value) (G : Nm) (gc : Gc) (g : Nat) : Prop := ∃ a, mg (G.gnm g) = some (.ref a) ∧ ∀ S H, RV K S H (gc g) (.ref a)
def EOk (K : PySem.W.Frag) (mg : Str → Option Value) (G : Nm) (c : Nat) : Prop := ∃ C, mg (G.enm c) = some (.ref C) ∧ PySem.W.excIn K C veTail "ValueError.__new__" = true ∧ PySem.W.keepIn K (.ref C) = true ∧ PySem.W.subIn K (.ref C) (.type "BaseException") = some true ∧ PySem.W.typeIn K (.ref C) = some (.type "type")
theorem wok (hb : ∀ x ∈ bltN, mg x = none) (hf : ∀ i ∈ G.fs, FOk P w K mg G gc T wn i) (hg : ∀ g ∈ G.gs, GOk K mg G gc g) (he : ∀ c ∈ G.es, EOk K mg G c) (base : Heap) (hr : G.rs = true → ResW P w K mg base G) (ht : ∀ x ∈ tdf K, LamX.TabB base mg (He.cT K (x, none)).1 (He.cT K (x, none)).2) (hu : ∀ p ∈ tbl K, ∀ q ∈ tbl K, p.1 = q.1 → p.2 = q.2) : ∀ k, Wok P w K mg base k G gc (callF gc T wn k)
  | 0 => ⟨hb, fun f m => by
      obtain ⟨fa, fd, h1, h2, h3, h4, _⟩ := hf f m
      exact ⟨fa, fd, h1, h2, h3, h4, fn_zero f⟩, hg, he, hr, ht, hu⟩
  | k + 1 => ⟨hb, fun f m => by
      obtain ⟨fa, fd, h1, h2, h3, h4, h5⟩ := hf f m
      exact ⟨fa, fd, h1, h2, h3, h4, h5 base k (wok hb hf hg he base hr ht hu k)⟩, hg, he, hr, ht, hu⟩
/-- the scope of a def, seen -/
def scB (N ps : List Str) (sc : Scope) : Bool := (match sc.kind with
  | .function => true
  | _ => false) && !sc.isCoroutine && !sc.isGenerator && decide N.Nodup && decide (N.take ps.length = ps) && (ps.all fun x => match sc.names.lookup x with
  | some .local => true
  | some .cell => true
  | _ => false) && sc.names.all fun y => match y.2 with
  | .free => false
  | _ => true
theorem scB_ok {N ps : List Str} {sc : Scope} (h : scB N ps sc = true) : FnScope N ps sc := by
  unfold scB at h
  simp only [Bool.and_eq_true, decide_eq_true_eq, List.all_eq_true, Bool.not_eq_true'] at h
  obtain ⟨⟨⟨⟨⟨⟨h1, h2⟩, h3⟩, h4⟩, h5⟩, h6⟩, h7⟩ := h
  refine ⟨?_, h2, h3, h4, h5, fun x hx => ?_, fun y hy e => ?_⟩
  · split at h1
    · assumption
    · cases h1
  · have := h6 x hx
    split at this
    · rename_i e
      exact .inl e
    · rename_i e
      exact .inr e
    · cases this
  · have := h7 y hy
    rw [e] at this
    cases this
/-- what is seen of a def's text and form -/
def fnB (G : Nm) (T : Tab) (i : Nat) (g : Fn) (N : List Str) (sc : Scope) (body : List Stmt) : Bool :=
  scB N (G.fps i) sc && mSs G N sc g.body body && Nat.beq g.np (G.fps i).length && Nat.beq g.ns N.length
theorem step_fn {x qual : Str} {params : Arguments} {body : List Stmt} {sc : Scope} {f : Addr} {fd : FuncData} {N : List Str} {g : Fn} {i : Nat} (F : FunD K x qual params body sc [] [] f fd) (hT : T.lookup i = some (.fn g)) {lb : Bool} (h : fnB { G with lm := lb } T i g N sc body = true) (hx : lb = true → x = qual ∧ f = He.fAd K (x, none) ∧ x ∈ tdf K) (base : Heap) (k : Nat)
    (W : Wok P w K mg base k G gc (callF gc T wn k)) : FnOk P w K mg base (L2.CX P w) (3 * (k + 1)) f fd (G.fps i) (spC K mg G (callF gc T wn (k + 1)) i) := by
  unfold fnB at h
  simp only [Bool.and_eq_true] at h
  obtain ⟨⟨⟨h1, h2⟩, h3⟩, h4⟩ := h
  exact fn_ok (G := { G with lm := lb }) F (scB_ok h1) h2 (Nat.eq_of_beq_eq_true h3) (Nat.eq_of_beq_eq_true h4) hT hx W.lm
/-- constants: tuples of texts -/
theorem gok {x : Str} {vs : List He.Dv} {ss : List (List Nat)} {g : Nat} (h0 : G.gnm g = x) (h1 : mg x = some (.ref (He.ga K x))) (h2 : He.tupB K x vs = true) (h3 : gc g = .tup (ss.map D.str)) (h4 : vs = ss.map fun s => He.Dv.str ⟨s.toArray⟩) : GOk K mg G gc g := by
  refine ⟨He.ga K x, by rw [h0]; exact h1, fun S H => ?_⟩
  rw [h3]
  unfold RV
  refine ⟨_, _, rfl, He.tupB_ok h2 H, ?_⟩
  subst h4
  clear h2 h3 h1 h0
  induction ss with
  | nil => exact .nil
  | cons s ss ih => exact .cons (by unfold RV; rfl) ih
theorem eok {c : Nat} {x : Str} (h0 : G.enm c = x) (h1 : mg x = some (.ref (He.ga K x))) (h2 : (He.Fa.exc x).ok K = true) : EOk K mg G c := by
  obtain ⟨c1, h2⟩ := He.ba h2
  obtain ⟨c2, h2⟩ := He.ba h2
  obtain ⟨c3, c4⟩ := He.ba h2
  exact ⟨_, by rw [h0]; exact h1, c1, c2, of_decide_eq_true c3, of_decide_eq_true c4⟩
/-- what may be let out, of any world -/
def CXs (P : Program) : CXT := fun outer H s E e s' => ∃ w, L2.CX P w outer H s E e s'
theorem FnOk.some {k : Nat} {f : Addr} {fd : FuncData} {ps : List Str} {sp : Sp} (F : FnOk P w K mg base (L2.CX P w) k f fd ps sp) : FnOk P w K mg base (CXs P) k f fd ps sp :=
  ⟨F.len, fun A outer s H args us vs Q E h1 h2 h3 h4 h5 => codeAny_mono (F.run A outer s H args us vs Q E h1 h2 h3 h4 h5) fun r s' g => by
    cases r with
    | error e => exact ⟨w, g⟩
    | ok u => cases u <;> exact g⟩
theorem cxs_no {H : Hp} {s : Shared} {e : Value} {s' : Shared} (h : CXs P [] H s (fun _ _ _ => False) e s') : False := by
  obtain ⟨w, h⟩ := h
  obtain ⟨_, _, _, _, _, _, _, _, _, _, _, _, z⟩ := h
  exact z.elim
/-- the law's promise from its run -/
theorem law_sp {k i : Nat} (hp : (G.fps i).length = 1) (hl : (callF gc T wn k i [.opq 0]).All fun r => r = .ok (.bl true)) (H : Hp) (a : Addr) (ns : List Int) (hn : ns.length ≤ 63) (ho : ∀ p ∈ (tdf K).map fun x => He.cT K (x, none), H p.2 = some (.tbl #[])) (hs : SqL K H a (ns.map V.int)) :
    spC K mg G (callF gc T wn k) i [.ref a] H (fun v _ => v = .bl true) fun _ _ _ => False := by
  have htab : LamX.Tabs (tbl K) H := fun p hp => by
    obtain ⟨x, hx, rfl⟩ := List.mem_map.mp hp
    exact LamX.TabS.nil (ho _ (List.mem_map.mpr ⟨x, hx, rfl⟩))
  refine ⟨hp.symm, ⟨[], fun b => H b = some (.lst (ns.map V.int)), a, fun _ _ => False⟩, [.opq 0], rfl, ⟨rfl, List.nodup_nil, fun n o e => by simp at e, fun a m => (by cases m), ⟨ns, hn, ?_⟩, fun _ _ e => e.elim, fun b m => ⟨_, m, nt_lst⟩, htab⟩, .cons (by unfold RV; rfl) .nil, F.All.imp (fun r e => ?_) hl⟩
  · rcases hs with (hs | hs) | hs
    · exact .inr (.inl ⟨hs, hs⟩)
    · exact .inl hs
    · exact .inr (.inr hs)
  · subst e
    intro S' v H' _ _ _ q
    unfold RV at q
    exact q
end
/-- a law's end, its defs' tables known -/
theorem walk_ofTE {l : PySem.W.OpenLaw} {n k : Nat} {q : Program} {loose : List Str} {XP : (Str → Option Value) → Heap → Prop} {YP : World → Heap → Prop} {d : DefRec} {CX : CXT} {x : Str} (hn : l.most = some n) (hn2 : n ≤ sizeLine) (hdf : d.params.defaults = []) (hr : Room k callerA)
    (F : ∀ (w : World) (mg : Str → Option Value) (fa : Addr) (h : Heap), YP w h → h.Ns mainGlobals mg → mg d.name = some (.ref fa) → ∃ (K : PySem.W.Frag) (fd : FuncData) (cs : List (Addr × Addr)) (sp : Sp), K.In h ∧ (∀ p ∈ cs, h.get? p.2 = some { cls := .none, data := .fields #[] }) ∧ (∀ p ∈ cs, K.lookup p.2 = none) ∧ (∀ p ∈ cs, PySem.W.CodeHd h p.1 p.2) ∧
      (∀ (s : Shared) (u : Value), BindsTo s fd ⟨[u], []⟩ [(x, u)]) ∧ (∀ (H : Hp) (a : Addr) (ns : List Int), ns.length ≤ n → (∀ p ∈ cs, H p.2 = some (.tbl #[])) → SqL K H a (ns.map V.int) → sp [.ref a] H (fun v _ => v = .bl true) fun _ _ _ => False) ∧
      ∀ base : Heap, K.In base → base.Ns mainGlobals mg → (∀ p ∈ cs, LamX.TabB base mg p.1 p.2) → FnOk l.prog w K mg base CX k fa fd [x] sp)
    (hCX : ∀ (H : Hp) (s : Shared) (e : Value) (s' : Shared), CX [] H s (fun _ _ _ => False) e s' → False) : PySem.W.WalkO q loose XP YP l.row.toRowW d [] (fun f vs => PySem.call f vs) := by
  refine Att.attach_call hn hdf fun w s₀ s₁ mg mb fa o pm cd doc a vs ns G Y ho hd hcd hmg hobj hints hlen hg => ?_
  obtain ⟨K, fd, cs, sp, KX, hT, nT, C, hb, hsp, hF⟩ := F w mg fa _ Y G.T.g hmg
  exact LamX.law_callTs KX G.T.g G.T.b G.T.builtins G.T.nolimit hg hT nT C G.T.bmain hobj hints (Nat.le_trans hlen hn2) hr hF hb (fun H hH hS => hsp H a ns hlen hH hS) fun H e s' => hCX H s₁ e s'
/-- f(e, .., k = v, ..): every parameter is written, the last ones by their names -/
theorem bindsK {K : PySem.W.Frag} {x qual : Str} {params : Arguments} {body : List Stmt} {scope : Scope} {kws : List (Str × V)} {f : Addr} {fd : FuncData} {ps : List Str} (F : FunD K x qual params body scope [] kws f fd)
    (h : ∀ (kV doc pm : Value) (an : Option Addr) (cdv ct : Value) (us ws : List Value), (us ++ ws).length = ps.length → bindArgs (PySem.W.fnOf x qual params body scope .none kV doc pm an cdv ct) ⟨us, (ps.drop us.length).zip ws⟩ = pure (ps.zip (us ++ ws))) (s : Shared) (us ws : List Value) (X : K.In s.heap) (hl : (us ++ ws).length = ps.length) : BindsTo s fd ⟨us, (ps.drop us.length).zip ws⟩ (ps.zip (us ++ ws)) := by
  obtain ⟨oc, od, dV, kV, doc, pm, an, cdv, ct, osl, rfl, lk, hcd, hD, hK⟩ := F.ex
  rcases hD with ⟨_, rfl⟩ | ⟨e, _⟩
  · exact .of_eq (h kV doc pm an cdv ct us ws hl)
  · exact absurd rfl e
end Bk
/-! BkP: plain facts on the evaluator: calls, loops, comprehensions. -/
namespace Bk
class HasG (gc : Gc) (g : Nat) (d : D) : Prop where
  h : gc g = d
class Has (T : Tab) (i : Nat) (g : Fn) : Prop where
  h : T.lookup i = some (.fn g)
class HasD (T : Tab) (i : Nat) : Prop where
  h : T.lookup i = some .drw
class HasB (T : Tab) (i : Nat) : Prop where
  h : T.lookup i = some .beg
theorem call_drw {gc : Gc} {T : Tab} {wn k i : Nat} [H : HasD T i] (n : Int) (h : 0 < n ∧ n ≤ 1000000) : callF gc T wn (k + 1) i [.opq 0, .opq 1, .int n] = .draw n.toNat fun r => ok (.int (r : Nat)) := by
  show (match T.lookup i with
    | some (.fn g) => runF gc (callF gc T wn k) wn g [.opq 0, .opq 1, .int n]
    | some .drw => drwD [.opq 0, .opq 1, .int n]
    | some .beg => .stk
    | none => .stk) = _
  rw [H.h]
  show (if 0 < n ∧ n ≤ 1000000 then _ else _) = _
  rw [if_pos h]
theorem call_beg {gc : Gc} {T : Tab} {wn k i : Nat} [H : HasB T i] : callF gc T wn (k + 1) i [] = ok (.opq 1) := by
  show (match T.lookup i with
    | some (.fn g) => runF gc (callF gc T wn k) wn g []
    | some .drw => drwD []
    | some .beg => ok (.opq 1)
    | none => .stk) = _
  rw [H.h]
theorem call_has {gc : Gc} {T : Tab} {wn k i : Nat} (g : Fn) [H : Has T i g] (ds : List D) : callF gc T wn (k + 1) i ds = runF gc (callF gc T wn k) wn g ds := by
  show (match T.lookup i with
    | some (.fn g) => runF gc (callF gc T wn k) wn g ds
    | some .drw => drwD ds
    | some .beg => match ds with
      | [] => ok (.opq 1)
      | _ => .stk
    | none => .stk) = _
  rw [H.h]
abbrev vs (s : List Nat) : Option Vv := some (.d (.str s))
abbrev vi (i : Int) : Option Vv := some (.d (.int i))
abbrev vd (x : D) : Option Vv := some (.d x)
/-! ### loops -/
section
variable {gc : Gc} {cl : Cl} {wn : Nat} {cond : En → Hq → M Bool} {body : En → Hq → F Fl} {n : Nat} {e e1 e2 : En} {h h2 : Hq} {tg : Tg} {d : D} {ds : List D}
theorem whl_step (hc : cond e h = ok true) (hb : body e h = .ret (.nx e2 h2)) : whlL cond body (n + 1) e h = whlL cond body n e2 h2 := by
  rw [whlL, hc]
  show (body e h).bind _ = _
  rw [hb]
  rfl
theorem whl_stop (hc : cond e h = ok false) : whlL cond body (n + 1) e h = .ret (.nx e h) := by
  rw [whlL, hc]
  rfl
theorem for_step (ha : asg tg d e = some e1) (hb : body e1 h = .ret (.nx e2 h2)) : forL tg body (d :: ds) e h = forL tg body ds e2 h2 := by
  rw [forL, ha]
  show (body e1 h).bind _ = _
  rw [hb]
  rfl
theorem for_fold {α β : Type} {enc : α → D} {R : β → En → Hq → Prop} {f : β → α → β} : ∀ {ys : List α} (_ : ∀ y ∈ ys, ∀ b e h, R b e h → ∃ e1 e2 h2, asg tg (enc y) e = some e1 ∧ body e1 h = .ret (.nx e2 h2) ∧ R (f b y) e2 h2) {b : β} {e : En} {h : Hq}, R b e h →
    ∃ e' h', forL tg body (ys.map enc) e h = .ret (.nx e' h') ∧ R (ys.foldl f b) e' h'
  | [], _, b, e, h, r => ⟨e, h, rfl, r⟩
  | y :: ys, hs, b, e, h, r => by
    obtain ⟨e1, e2, h2, ha, hb, r2⟩ := hs y List.mem_cons_self b e h r
    obtain ⟨e', h', q1, q2⟩ := for_fold (ys := ys) (fun z hz => hs z (List.mem_cons_of_mem _ hz)) r2
    exact ⟨e', h', by rw [List.map_cons, for_step ha hb]; exact q1, q2⟩
/-- the same by what has been walked -/
theorem for_pre {α : Type} {enc : α → D} {R : List α → En → Hq → Prop} {ys : List α} (hs : ∀ pre y post, ys = pre ++ y :: post → ∀ e h, R pre e h → ∃ e1 e2 h2, asg tg (enc y) e = some e1 ∧ body e1 h = .ret (.nx e2 h2) ∧ R (pre ++ [y]) e2 h2) {e : En} {h : Hq} (r : R [] e h) :
    ∃ e' h', forL tg body (ys.map enc) e h = .ret (.nx e' h') ∧ R ys e' h' := by
  suffices H : ∀ (post pre : List α), ys = pre ++ post → ∀ e h, R pre e h → ∃ e' h', forL tg body (post.map enc) e h = .ret (.nx e' h') ∧ R ys e' h' from H ys [] rfl e h r
  intro post
  induction post with
  | nil =>
    intro pre hp e h r
    rw [List.append_nil] at hp
    subst hp
    exact ⟨e, h, rfl, r⟩
  | cons y post ih =>
    intro pre hp e h r
    obtain ⟨e1, e2, h2, ha, hb, r2⟩ := hs pre y post hp e h r
    obtain ⟨e', h', q1, q2⟩ := ih (pre ++ [y]) (by rw [hp]; simp) e2 h2 r2
    exact ⟨e', h', by rw [List.map_cons, for_step ha hb]; exact q1, q2⟩
/-- a loop with draws, turn by turn -/
theorem for_alln {P : Fl → Prop} {R : Nat → En → Hq → Prop} : ∀ {ds : List D} {i : Nat} (_ : ∀ j d, ds[j]? = some d → ∀ e h, R (i + j) e h → ∃ e1, asg tg d e = some e1 ∧ (body e1 h).All fun r => match r with
      | .nx e2 h2 => R (i + j + 1) e2 h2
      | .ct e2 h2 => R (i + j + 1) e2 h2
      | .bk e2 h2 => P (.nx e2 h2)
      | .rt v h2 => P (.rt v h2)
      | .ex c => P (.ex c)) (_ : ∀ e h, R (i + ds.length) e h → P (.nx e h)) {e : En} {h : Hq}, R i e h → (forL tg body ds e h).All P
  | [], i, _, hn, e, h, r => hn e h r
  | d :: ds, i, hs, hn, e, h, r => by
    obtain ⟨e1, ha, hb⟩ := hs 0 d rfl e h r
    rw [forL, ha]
    have hs' : ∀ j d, ds[j]? = some d → ∀ e h, R (i + 1 + j) e h → ∃ e1, asg tg d e = some e1 ∧ (body e1 h).All fun r => match r with
      | .nx e2 h2 => R (i + 1 + j + 1) e2 h2
      | .ct e2 h2 => R (i + 1 + j + 1) e2 h2
      | .bk e2 h2 => P (.nx e2 h2)
      | .rt v h2 => P (.rt v h2)
      | .ex c => P (.ex c) := fun j d hj => by
      have := hs (j + 1) d hj
      rw [show i + (j + 1) = i + 1 + j by omega] at this
      exact this
    have hn' : ∀ e h, R (i + 1 + ds.length) e h → P (.nx e h) := fun e h q => hn e h (by rw [List.length_cons, show i + (ds.length + 1) = i + 1 + ds.length by omega]; exact q)
    refine F.All_bind.mpr (F.All.imp (fun r p => ?_) hb)
    cases r with
    | nx e2 h2 => exact for_alln hs' hn' p
    | ct e2 h2 => exact for_alln hs' hn' p
    | bk e2 h2 => exact p
    | rt v h2 => exact p
    | ex c => exact p
/-- a loop with draws: what holds of each turn -/
theorem for_all {P : Fl → Prop} {R : En → Hq → Prop} : ∀ {ds : List D} (_ : ∀ d ∈ ds, ∀ e h, R e h → ∃ e1, asg tg d e = some e1 ∧ (body e1 h).All fun r => match r with
      | .nx e2 h2 => R e2 h2
      | .ct e2 h2 => R e2 h2
      | .bk e2 h2 => P (.nx e2 h2)
      | .rt v h2 => P (.rt v h2)
      | .ex c => P (.ex c)) (_ : ∀ e h, R e h → P (.nx e h)) {e : En} {h : Hq}, R e h → (forL tg body ds e h).All P
  | [], _, hn, e, h, r => hn e h r
  | d :: ds, hs, hn, e, h, r => by
    obtain ⟨e1, ha, hb⟩ := hs d List.mem_cons_self e h r
    rw [forL, ha]
    refine F.All_bind.mpr (F.All.imp (fun r p => ?_) hb)
    cases r with
    | nx e2 h2 => exact for_all (fun z hz => hs z (List.mem_cons_of_mem _ hz)) hn p
    | ct e2 h2 => exact for_all (fun z hz => hs z (List.mem_cons_of_mem _ hz)) hn p
    | bk e2 h2 => exact p
    | rt v h2 => exact p
    | ex c => exact p
theorem cmp_ok {α : Type} {enc : α → D} {f : D → M (Option D)} {g : α → Option D} : ∀ {ys : List α}, (∀ y ∈ ys, f (enc y) = ok (g y)) → cmpL f (ys.map enc) = ok (ys.filterMap g)
  | [], _ => rfl
  | y :: ys, h => by
    rw [List.map_cons, cmpL, h y List.mem_cons_self, cmp_ok fun z hz => h z (List.mem_cons_of_mem _ hz)]
    show ok _ = ok _
    rw [List.filterMap_cons]
    cases g y <;> rfl
theorem ev_cmp1 {α : Type} {enc : α → D} {ys : List α} {elt : Ex} {it : Ix} {own : List Nat} (g : α → D) (hi : evI gc cl it e h = ok (ys.map enc)) (hl : ys.length ≤ 100000) (hf : ∀ y ∈ ys, ∃ e1, asg tg (enc y) (wip e own) = some e1 ∧ evE gc cl elt e1 h = ok (.d (g y))) :
    evE gc cl (.cmp1 elt tg it own) e h = ok (.d (.lst (ys.map g))) := by
  rw [evE, hi]
  have hb : Nat.ble (ys.map enc).length lim = true := Nat.ble_eq_true_of_le (by rw [List.length_map]; show _ ≤ 1000000; omega)
  show (match Nat.ble (ys.map enc).length lim with | true => _ | false => _) = _
  rw [hb]
  show bnd (noEx (cmpL _ _)) _ = _
  rw [cmp_ok (g := fun y => some (g y)) fun y hy => by
    obtain ⟨e1, h1, h2⟩ := hf y hy
    rw [h1]
    show bnd (evE gc cl elt e1 h) _ = _
    rw [h2]
    rfl]
  show ok (Vv.d (D.lst _)) = _
  rw [show (fun y => some (g y)) = some ∘ g from rfl, List.filterMap_eq_map]
theorem fm_snoc {α β : Type} (g : α → Option β) (pre : List α) (y : α) : (pre ++ [y]).filterMap g = pre.filterMap g ++ (match g y with | some z => [z] | none => []) := by
  rw [List.filterMap_append]
  cases h : g y <;> simp [h]
theorem fm_filter {α β : Type} (q : α → Bool) (g : α → β) : ∀ ys : List α, (ys.filterMap fun y => if q y = true then some (g y) else none) = (ys.filter q).map g
  | [] => rfl
  | y :: ys => by
    rw [List.filterMap_cons, List.filter_cons]
    cases hq : q y with
    | false => simpa using fm_filter q g ys
    | true => simpa using fm_filter q g ys
theorem ev_cmpc {α : Type} {enc : α → D} {ys : List α} {elt : Ex} {it : Ix} {c : Tx} {own : List Nat} (q : α → Bool) (g : α → D) (hi : evI gc cl it e h = ok (ys.map enc)) (hl : ys.length ≤ 100000)
    (hf : ∀ y ∈ ys, ∃ e1, asg tg (enc y) (wip e own) = some e1 ∧ evT gc cl c e1 h = ok (q y) ∧ (q y = true → evE gc cl elt e1 h = ok (.d (g y)))) :
    evE gc cl (.cmpc elt tg it c own) e h = ok (.d (.lst ((ys.filter q).map g))) := by
  rw [evE, hi]
  have hb : Nat.ble (ys.map enc).length lim = true := Nat.ble_eq_true_of_le (by rw [List.length_map]; show _ ≤ 1000000; omega)
  show (match Nat.ble (ys.map enc).length lim with | true => _ | false => _) = _
  rw [hb]
  show bnd (noEx (cmpL _ _)) _ = _
  rw [cmp_ok (g := fun y => if q y = true then some (g y) else none) fun y hy => by
    obtain ⟨e1, h1, h2, h3⟩ := hf y hy
    rw [h1]
    show bnd (evT gc cl c e1 h) _ = _
    rw [h2]
    cases hq : q y with
    | false => rfl
    | true =>
      show bnd (evE gc cl elt e1 h) _ = _
      rw [h3 hq]
      rfl]
  show ok (Vv.d (D.lst _)) = _
  rw [fm_filter]
end
/-! ### statement by statement -/
/-- as All, but Lean does not look into it -/
@[irreducible] def F.Al {α : Type} (P : α → Prop) (m : F α) : Prop := m.All P
theorem al_iff {α : Type} {P : α → Prop} {m : F α} : m.Al P ↔ m.All P := by
  unfold F.Al
  exact Iff.rfl
theorem al_ret {α : Type} {P : α → Prop} {a : α} (k : P a) : (F.ret a).Al P := al_iff.mpr k
theorem Al_ret {α : Type} {P : α → Prop} {a : α} : (F.ret a).Al P ↔ P a := al_iff
theorem Al_draw {α : Type} {P : α → Prop} {n : Nat} {k : Nat → F α} : (F.draw n k).Al P ↔ ∀ r, r < n → (k r).Al P :=
  al_iff.trans ⟨fun h r hr => al_iff.mpr (h r hr), fun h r hr => al_iff.mp (h r hr)⟩
theorem Al_bind {α β : Type} {P : β → Prop} {f : α → F β} {m : F α} : (m.bind f).Al P ↔ m.Al fun a => (f a).Al P :=
  al_iff.trans (F.All_bind.trans ⟨fun h => al_iff.mpr (F.All.imp (fun a ha => al_iff.mpr ha) h), fun h => F.All.imp (fun a ha => al_iff.mp ha) (al_iff.mp h)⟩)
theorem al_imp {α : Type} {P Q : α → Prop} {m : F α} (q : m.Al P) (h : ∀ a, P a → Q a) : m.Al Q := al_iff.mpr (F.All.imp h (al_iff.mp q))
section
variable {gc : Gc} {cl : Cl} {wn : Nat} {s : Sx} {ss a b : Ss} {e e1 : En} {h h1 : Hq} {P Q : Fl → Prop} {v : Vv} {c : Tx} {r : F Fl} {x : Nat}
theorem st_nx (q : exS gc cl wn s e h = .ret (.nx e1 h1)) (k : (exSs gc cl wn ss e1 h1).Al P) : (exSs gc cl wn (.cons s ss) e h).Al P := by
  rw [exSs, q]
  exact k
theorem st_all (q : (exS gc cl wn s e h).Al Q) (k : ∀ r, Q r → match r with
    | .nx e1 h1 => (exSs gc cl wn ss e1 h1).Al P
    | r => P r) : (exSs gc cl wn (.cons s ss) e h).Al P := by
  rw [exSs]
  refine Al_bind.mpr (al_imp q fun r hr => ?_)
  have := k r hr
  cases r with
  | nx e h => exact this
  | _ => exact al_ret this
theorem st_nil (k : P (.nx e h)) : (exSs gc cl wn .nil e h).Al P := al_ret k
/-- the last statement -/
theorem st_one (q : exS gc cl wn s e h = .ret (.nx e1 h1)) (k : P (.nx e1 h1)) : (exSs gc cl wn (.cons s .nil) e h).Al P := st_nx q (st_nil k)
theorem st_rt (q : exS gc cl wn s e h = .ret (.rt v h1)) (k : P (.rt v h1)) : (exSs gc cl wn (.cons s ss) e h).Al P := by
  rw [exSs, q]
  exact al_ret k
theorem sq_nx (q : exS gc cl wn s e h = .ret (.nx e1 h1)) (k : exSs gc cl wn ss e1 h1 = r) : exSs gc cl wn (.cons s ss) e h = r := by
  rw [exSs, q]
  exact k
theorem sq_rt (q : exS gc cl wn s e h = .ret (.rt v h1)) : exSs gc cl wn (.cons s ss) e h = .ret (.rt v h1) := by
  rw [exSs, q]
  rfl
theorem sq_ex (q : exS gc cl wn s e h = .ret (.ex x)) : exSs gc cl wn (.cons s ss) e h = .ret (.ex x) := by
  rw [exSs, q]
  rfl
theorem sq_ct (q : exS gc cl wn s e h = .ret (.ct e1 h1)) : exSs gc cl wn (.cons s ss) e h = .ret (.ct e1 h1) := by
  rw [exSs, q]
  rfl
theorem sq_nil : exSs gc cl wn .nil e h = .ret (.nx e h) := rfl
theorem sq_if1 (q : evT gc cl c e h = ok true) : exS gc cl wn (.ife c a b) e h = exSs gc cl wn a e h := by
  rw [exS, q]
  rfl
theorem sq_if0 (q : evT gc cl c e h = ok false) : exS gc cl wn (.ife c a b) e h = exSs gc cl wn b e h := by
  rw [exS, q]
  rfl
theorem call_rt {T : Tab} {k i np ns : Nat} {bd : Ss} (g : Fn) [Has T i g] {ds : List D} {d : D} (hg : g = ⟨np, ns, bd⟩) (he : ds.map (fun d => some (.d d)) ++ List.replicate (ns - np) none = e) (hn : Nat.beq ds.length np = true) (q : exSs gc (callF gc T wn k) wn bd e [] = .ret (.rt v h1)) (hd : rdV h1 v = some d) : callF gc T wn (k + 1) i ds = ok d := by
  subst hg he
  rw [call_has ⟨np, ns, bd⟩, runF, hn]
  show (exSs gc (callF gc T wn k) wn bd _ []).bind endD = _
  rw [q]
  show endD (.rt v h1) = _
  rw [endD, hd]
theorem call_rtd {T : Tab} {k i np ns : Nat} {bd : Ss} (g : Fn) [Has T i g] {ds : List D} {d : D} (hg : g = ⟨np, ns, bd⟩) (he : ds.map (fun d => some (.d d)) ++ List.replicate (ns - np) none = e) (hn : Nat.beq ds.length np = true) (q : ∃ h1, exSs gc (callF gc T wn k) wn bd e [] = .ret (.rt (.d d) h1)) : callF gc T wn (k + 1) i ds = ok d := by
  obtain ⟨h1, q⟩ := q
  exact call_rt g hg he hn q rfl
theorem call_nx {T : Tab} {k i np ns : Nat} {bd : Ss} (g : Fn) [Has T i g] {ds : List D} (hg : g = ⟨np, ns, bd⟩) (he : ds.map (fun d => some (.d d)) ++ List.replicate (ns - np) none = e) (hn : Nat.beq ds.length np = true) (q : exSs gc (callF gc T wn k) wn bd e [] = .ret (.nx e1 h1)) : callF gc T wn (k + 1) i ds = ok .non := by
  subst hg he
  rw [call_has ⟨np, ns, bd⟩, runF, hn]
  show (exSs gc (callF gc T wn k) wn bd _ []).bind endD = _
  rw [q]
  rfl
theorem call_ex {T : Tab} {k i np ns : Nat} {bd : Ss} (g : Fn) [Has T i g] {ds : List D} (hg : g = ⟨np, ns, bd⟩) (he : ds.map (fun d => some (.d d)) ++ List.replicate (ns - np) none = e) (hn : Nat.beq ds.length np = true) (q : exSs gc (callF gc T wn k) wn bd e [] = .ret (.ex x)) : callF gc T wn (k + 1) i ds = .ret (.ex x) := by
  subst hg he
  rw [call_has ⟨np, ns, bd⟩, runF, hn]
  show (exSs gc (callF gc T wn k) wn bd _ []).bind endD = _
  rw [q]
  rfl
theorem call_all {T : Tab} {k i np ns : Nat} {bd : Ss} (g : Fn) [Has T i g] {ds : List D} {R : Rx D → Prop} (hg : g = ⟨np, ns, bd⟩) (he : ds.map (fun d => some (.d d)) ++ List.replicate (ns - np) none = e) (hn : Nat.beq ds.length np = true) (q : (exSs gc (callF gc T wn k) wn bd e []).Al fun r => (endD r).Al R) : (callF gc T wn (k + 1) i ds).Al R := by
  subst hg he
  rw [call_has ⟨np, ns, bd⟩, runF, hn]
  exact Al_bind.mpr q
end
/-- a loop with draws -/
theorem for_al {tg : Tg} {body : En → Hq → F Fl} {P : Fl → Prop} {R : En → Hq → Prop} {ds : List D} (hs : ∀ d ∈ ds, ∀ e h, R e h → ∃ e1, asg tg d e = some e1 ∧ (body e1 h).Al fun r => match r with
      | .nx e2 h2 => R e2 h2
      | .ct e2 h2 => R e2 h2
      | .bk e2 h2 => P (.nx e2 h2)
      | .rt v h2 => P (.rt v h2)
      | .ex c => P (.ex c)) (hn : ∀ e h, R e h → P (.nx e h)) {e : En} {h : Hq} (r : R e h) : (forL tg body ds e h).Al P :=
  al_iff.mpr (for_all (R := R) (fun d hd e h r => (hs d hd e h r).imp fun e1 q => ⟨q.1, al_iff.mp q.2⟩) hn r)
/-! ### what is walked -/
section
variable {gc : Gc} {cl : Cl} {wn : Nat} {e : En} {h : Hq} {tg : Tg} {a b c x : Ex} {i j : Int} {xs : List D} {it : Ix} {bd : Ss}
theorem ev_rg1 (ha : evE gc cl a e h = ok (.d (.int i))) (hr : rngD 0 i = some xs) : evI gc cl (.rg1 a) e h = ok xs := by
  rw [evI, ha]
  show lf (rngD 0 i) = _
  rw [hr]
  rfl
theorem ev_rg1_draw {n : Nat} {f : Nat → Int} (ha : evE gc cl a e h = .draw n fun r => ok (.d (.int (f r)))) : evI gc cl (.rg1 a) e h = .draw n fun r => lf (rngD 0 (f r)) := by
  rw [evI, ha]
  rfl
theorem ev_rg2 (ha : evE gc cl a e h = ok (.d (.int i))) (hb : evE gc cl b e h = ok (.d (.int j))) (hr : rngD i j = some xs) : evI gc cl (.rg2 a b) e h = ok xs := by
  rw [evI, ha, hb]
  show lf (rngD i j) = _
  rw [hr]
  rfl
theorem ev_rg3 (ha : evE gc cl a e h = ok (.d (.int i))) (hb : evE gc cl b e h = ok (.d (.int j))) (hc : evE gc cl c e h = ok (.d (.int (-1)))) (hr : rngN i j = some xs) : evI gc cl (.rg3 a b c) e h = ok xs := by
  rw [evI, ha, hb, hc]
  show lf (rngN i j) = _
  rw [hr]
  rfl
theorem ev_seq {d : D} (ha : evE gc cl x e h = ok (.d d)) (hr : seqD d = some xs) : evI gc cl (.seq x) e h = ok xs := by
  rw [evI, ha]
  show lf (seqD d) = _
  rw [hr]
  rfl
theorem ex_for (ho : isOwn it = false) (hi : evI gc cl it e h = ok xs) : exS gc cl wn (.for_ tg it bd) e h = forL tg (fun e h => exSs gc cl wn bd e h) xs e h := by
  rw [exS, ho, hi]
  rfl
end
/-! ### operations at plain data -/
theorem add_ii (a b : Int) : addD (.int a) (.int b) = some (.int (a + b)) := rfl
theorem sub_ii (a b : Int) : subiD (.int a) (.int b) = some (.int (a - b)) := rfl
theorem lt_ii (a b : Int) : ltD (.int a) (.int b) = some (decide (a < b)) := rfl
theorem gt_ii (a b : Int) : gtD (.int a) (.int b) = some (decide (b < a)) := rfl
theorem le_ii (a b : Int) : leD (.int a) (.int b) = some (decide (a ≤ b)) := rfl
theorem add_ss {s t : List Nat} (h : s.length + t.length ≤ 1000) : addD (.str s) (.str t) = some (.str (s ++ t)) := if_pos (show s.length + t.length ≤ 1000000 by omega)
theorem add_tt {s t : List D} (h : s.length + t.length ≤ 1000) : addD (.tup s) (.tup t) = some (.tup (s ++ t)) := if_pos (show s.length + t.length ≤ 1000000 by omega)
mutual
theorem beq_self : ∀ (d : D) (n : Nat), D.shp n d = true → D.beq d d = true
  | .non, _, _ => by simp [D.beq]
  | .bl b, _, _ => by simp [D.beq]
  | .int i, _, _ => by simp [D.beq]
  | .str s, _, _ => by simp [D.beq]
  | .lst xs, 0, h => by simp [D.shp] at h
  | .lst xs, n + 1, h => by rw [D.beq]; exact beqs_self xs n h
  | .tup xs, 0, h => by simp [D.shp] at h
  | .tup xs, n + 1, h => by rw [D.beq]; exact beqs_self xs n h
  | .opq _, 0, h => by simp [D.shp] at h
  | .opq _, n + 1, h => by simp [D.shp] at h
theorem beqs_self : ∀ (ds : List D) (n : Nat), D.shps n ds = true → D.beqs ds ds = true
  | [], _, _ => by simp [D.beqs]
  | x :: xs, n, h => by
    rw [D.shps, Bool.and_eq_true] at h
    rw [D.beqs, beq_self x n h.1, beqs_self xs n h.2]
    rfl
end
theorem eq_self {d : D} (h : D.shp 60 d = true) : eqD d d = some true := by
  unfold eqD
  rw [if_pos (by rw [h]; rfl), beq_self d 60 h]
def AB (s : List Nat) : Prop := ∀ c ∈ s, c = 97 ∨ c = 98
theorem sub_str {s : List Nat} {z : Int} {n : Nat} (hl : s.length ≤ 1000) (hz : z = (n : Int)) (hn : n < s.length) : subD (.str s) (.int z) = some (.str [s[n]]) := by
  subst hz
  show (if s.length ≤ lim then (atD s (n : Int)).map fun c => D.str [c] else none) = _
  rw [if_pos (show s.length ≤ 1000000 by omega)]
  unfold atD ixD
  rw [if_pos (by omega), if_pos (by omega)]
  simp [hn]
theorem at_nat {α : Type} {xs : List α} {z : Int} {n : Nat} (hz : z = (n : Int)) (hn : n < xs.length) : atD xs z = some xs[n] := by
  subst hz
  unfold atD ixD
  rw [if_pos (by omega), if_pos (by omega)]
  simp [hn]
theorem eq_chr {a b : Nat} (ha : a = 97 ∨ a = 98) (hb : b = 97 ∨ b = 98) : eqD (.str [a]) (.str [b]) = some (decide (a = b)) := by
  rcases ha with rfl | rfl <;> rcases hb with rfl | rfl <;> rfl
theorem len_str {s : List Nat} (hl : s.length ≤ 1000) : lenD [.str s] = some (.int s.length) := if_pos (show s.length ≤ 1000000 by omega)
theorem all_true {α : Type} : ∀ l : List α, allD [.lst (l.map fun _ => D.bl true)] = some (.bl true) := fun l => by
  have : allBl (l.map fun _ => D.bl true) = some (l.map fun _ => true) := by
    induction l with
    | nil => rfl
    | cons x l ih => rw [List.map_cons, allBl, ih]; rfl
  show (allBl (l.map fun _ => D.bl true)).map _ = _
  rw [this]
  simp
theorem blt_lim {n : Nat} (h : n ≤ 200) : Nat.blt n lim = true := Nat.ble_eq_true_of_le (show n + 1 ≤ 1000000 by omega)
theorem eq_ints (a b : Int) : eqD (.int a) (.int b) = some (decide (a = b)) := by
  show some (a == b) = _
  rw [show (a == b) = decide (a = b) from rfl]
theorem eq_nat (a b : Nat) : eqD (.int (a : Int)) (.int (b : Int)) = some (decide (a = b)) := by
  rw [eq_ints, show decide ((a : Int) = (b : Int)) = decide (a = b) from decide_eq_decide.mpr (by omega)]
theorem rng_nat {lo hi : Int} {a b : Nat} (ha : lo = (a : Int)) (hb : hi = (b : Int)) (h1 : a ≤ 1000) (h2 : b ≤ 1000) : rngD lo hi = some ((List.range (b - a)).map fun i : Nat => D.int ((a + i : Nat) : Int)) := by
  subst ha hb
  unfold rngD
  rw [if_pos ⟨⟨by omega, by omega⟩, by omega, by omega⟩]
  have e : ((b : Int) - (a : Int)).toNat = b - a := by omega
  rw [e]
  simp only [Int.natCast_add]
theorem min_two (a b : Nat) : minD [.int a, .int b] = some (.int (min a b : Nat)) := by
  show some (D.int (if (b : Int) < (a : Int) then (b : Int) else (a : Int))) = _
  congr 2
  split <;> omega
theorem max_two (a b : Nat) : maxD [.int a, .int b] = some (.int (max a b : Nat)) := by
  show some (D.int (if (b : Int) > (a : Int) then (b : Int) else (a : Int))) = _
  congr 2
  split <;> omega
/-- the greatest of a list -/
def maxN (l : List Nat) : Nat := l.foldl max 0
/-- the least of a list, at most x -/
def minN (x : Nat) (l : List Nat) : Nat := l.foldl min x
theorem allInt_nat {α : Type} (f : α → Nat) : ∀ l : List α, allInt (l.map fun n => D.int (f n)) = some (l.map fun n => (f n : Int))
  | [] => rfl
  | x :: l => by
    rw [List.map_cons, allInt, allInt_nat f l]
    rfl
theorem foldl_max : ∀ (l : List Nat) (x : Nat), (l.map fun n : Nat => (n : Int)).foldl (fun a b => if b > a then b else a) (x : Int) = ((l.foldl max x : Nat) : Int)
  | [], x => rfl
  | y :: l, x => by
    rw [List.map_cons, List.foldl_cons, List.foldl_cons, ← foldl_max l (max x y)]
    congr 1
    split <;> omega
theorem foldl_min : ∀ (l : List Nat) (x : Nat), (l.map fun n : Nat => (n : Int)).foldl (fun a b => if b < a then b else a) (x : Int) = ((l.foldl min x : Nat) : Int)
  | [], x => rfl
  | y :: l, x => by
    rw [List.map_cons, List.foldl_cons, List.foldl_cons, ← foldl_min l (min x y)]
    congr 1
    split <;> omega
theorem max_list {l : List Nat} (h : l ≠ []) : maxD [.lst (l.map fun n : Nat => D.int n)] = some (.int (maxN l)) := by
  cases l with
  | nil => exact absurd rfl h
  | cons x l =>
    show (match allInt ((x :: l).map fun n => D.int (id n : Nat)) with | some is => (maxL is).map D.int | none => (allP _).bind (bestQ gtP)) = _
    rw [allInt_nat id]
    show some (D.int ((l.map fun n : Nat => (n : Int)).foldl (fun a b => if b > a then b else a) (x : Int))) = _
    rw [foldl_max]
    show some (D.int ((l.foldl max x : Nat) : Int)) = some (D.int (((x :: l).foldl max 0 : Nat) : Int))
    rw [List.foldl_cons, Nat.zero_max]
theorem min_list {x : Nat} {l : List Nat} : minD [.lst ((x :: l).map fun n : Nat => D.int n)] = some (.int (minN x l)) := by
  show (match allInt ((x :: l).map fun n => D.int (id n : Nat)) with | some is => (minL is).map D.int | none => (allP _).bind (bestQ ltP)) = _
  rw [allInt_nat id]
  show some (D.int ((l.map fun n : Nat => (n : Int)).foldl (fun a b => if b < a then b else a) (x : Int))) = _
  rw [foldl_min]
  rfl
/-- a loop of n turns -/
theorem ex_turns {gc : Gc} {cl : Cl} {wn : Nat} {tg : Tg} {z : Int} {bd : Ss} {e : En} {h : Hq} (n : Nat) (hz : z = (n : Int)) (hn : n ≤ 1000) : exS gc cl wn (.for_ tg (.rg1 (.cst (.int z))) bd) e h = forL tg (fun e h => exSs gc cl wn bd e h) ((List.range n).map fun i : Nat => D.int ((0 + i : Nat) : Int)) e h :=
  ex_for rfl (ev_rg1 (i := z) rfl (rng_nat (a := 0) rfl hz (by omega) hn))
theorem ex_put {gc : Gc} {cl : Cl} {wn : Nat} {i : Nat} {x : Ex} {e : En} {h : Hq} {P : Fl → Prop} (Q : Rx D → Prop) {f : Nat} {es : Exs} {ds : List D} (hx : x = .cal f es) (hi : i < e.length) (he : (evEs gc cl es e h) = ok (ds.map .d)) (hq : (cl f ds).Al Q) (k : ∀ d, Q (.ok d) → P (.nx (e.set i (some (.d d))) h)) (kx : ∀ c, Q (.ex c) → P (.ex c)) : (exS gc cl wn (.put i (.ex x)) e h).Al P := by
  subst hx
  have h1 : ∀ ds : List D, rdVs h (ds.map Vv.d) = some ds := fun ds => by
    induction ds with
    | nil => rfl
    | cons d ds ih => rw [List.map_cons, rdVs, rdV, ih]; rfl
  have h2 : ∀ ds : List D, anyR (ds.map Vv.d) = false := fun ds => by
    induction ds with
    | nil => rfl
    | cons d ds ih => rw [List.map_cons, anyR, ih]
  simp only [exS, evR, evE, he, onE, bnd, F.bind, h1, h2, Al_bind, Bool.not_false, Bool.true_or]
  refine al_imp hq (fun r hr => ?_)
  cases r with
  | ok d =>
    simp only [Al_ret, if_pos hi]
    exact k d hr
  | ex c =>
    simp only [Al_ret]
    exact kx c hr
theorem ev_enm {gc : Gc} {cl : Cl} {e : En} {h : Hq} {x : Ex} {ds : List D} (ha : evE gc cl x e h = ok (.d (.tup ds))) : evI gc cl (.enm x) e h = ok (enumL 0 ds) := by
  rw [evI, ha]
  rfl
section
variable {tg : Tg} {body : En → Hq → F Fl} {d : D} {ds : List D} {e e1 : En} {h h2 : Hq} {v : Vv} {c : Nat}
theorem for_rt (ha : asg tg d e = some e1) (hb : body e1 h = .ret (.rt v h2)) : forL tg body (d :: ds) e h = .ret (.rt v h2) := by
  rw [forL, ha]
  show (body e1 h).bind _ = _
  rw [hb]
  rfl
theorem for_ex (ha : asg tg d e = some e1) (hb : body e1 h = .ret (.ex c)) : forL tg body (d :: ds) e h = .ret (.ex c) := by
  rw [forL, ha]
  show (body e1 h).bind _ = _
  rw [hb]
  rfl
theorem for_nil : forL tg body [] e h = .ret (.nx e h) := rfl
end
end Bk
/-! BkQ: the program's core, evaluated: ways, texts, copies. -/
namespace Bk
def b_is_between : Fn := ⟨3, 3, (.cons (.ret (.and (.isi .int (.var 0)) (.and (.not (.isi .bool (.var 0))) (.chn .le .le (.var 1) (.var 0) (.var 2))))) .nil)⟩
def b_is_word : Fn := ⟨2, 2, (.cons (.ret (.and (.isi .str (.var 0)) (.cmp .isin (.var 0) (.var 1)))) .nil)⟩
def b_is_way : Fn := ⟨1, 1, (.cons (.ife (.or (.not (.val (.isi .tuple (.var 0)))) (.or (.val (.cmp .ne (.blt .len (.cons (.var 0) .nil)) (.cst (.int 6)))) (.not (.val (.cal 0 (.cons (.sub (.var 0) (.cst (.int 0))) (.cons (.glo 1) .nil))))))) (.cons (.ret (.cst (.bl false))) .nil) .nil) (.cons (.ife (.or (.not (.val (.cal 1 (.cons (.sub (.var 0) (.cst (.int 1))) (.cons (.cst (.int 2)) (.cons (.cst (.int 4)) .nil)))))) (.or (.not (.val (.cal 1 (.cons (.sub (.var 0) (.cst (.int 2))) (.cons (.cst (.int 2)) (.cons (.cst (.int 3)) .nil)))))) (.not (.val (.cal 1 (.cons (.sub (.var 0) (.cst (.int 3))) (.cons (.sub (.var 0) (.cst (.int 2))) (.cons (.cst (.int 4)) .nil)))))))) (.cons (.ret (.cst (.bl false))) .nil) .nil) (.cons (.ret (.and (.cal 1 (.cons (.sub (.var 0) (.cst (.int 4))) (.cons (.cst (.int 0)) (.cons (.cst (.int 1)) .nil)))) (.cal 0 (.cons (.sub (.var 0) (.cst (.int 5))) (.cons (.glo 0) .nil))))) .nil)))⟩
def b_check_way : Fn := ⟨1, 1, (.cons (.ife (.not (.val (.cal 2 (.cons (.var 0) .nil)))) (.cons (.rai 0) .nil) .nil) .nil)⟩
def e_is_text_0 : Ex := (.cmp .isin (.var 1) (.cst (.str [97, 98])))
def c_is_text_1 : Ex := (.cmp1 e_is_text_0 (.nm 1) (.seq (.var 0)) [1])
def b_is_text : Fn := ⟨1, 2, (.cons (.ret (.and (.isi .str (.var 0)) (.and (.cmp .le (.blt .len (.cons (.var 0) .nil)) (.cst (.int 24))) (.blt .all (.cons c_is_text_1 .nil))))) .nil)⟩
def b_check_text : Fn := ⟨1, 1, (.cons (.ife (.not (.val (.cal 3 (.cons (.var 0) .nil)))) (.cons (.rai 1) .nil) .nil) .nil)⟩
def b_check_sight : Fn := ⟨1, 1, (.cons (.ife (.not (.val (.cal 0 (.cons (.var 0) (.cons (.glo 2) .nil))))) (.cons (.rai 2) .nil) .nil) .nil)⟩
def t_length_at_0 : Tx := (.and (.val (.cmp .lt (.var 4) (.var 3))) (.and (.val (.cmp .lt (.bop .add (.var 1) (.var 4)) (.blt .len (.cons (.var 0) .nil)))) (.val (.cmp .eq (.sub (.var 0) (.bop .add (.var 1) (.var 4))) (.sub (.var 0) (.bop .sub (.bop .add (.var 1) (.var 4)) (.var 2)))))))
def s_length_at_1 : Ss := (.cons (.aug 4 .add (.cst (.int 1))) .nil)
def b_length_at : Fn := ⟨4, 5, (.cons (.put 4 (.ex (.cst (.int 0)))) (.cons (.whl t_length_at_0 s_length_at_1) (.cons (.ret (.var 4)) .nil)))⟩
def s_copies_of_0 : Ss := (.cons (.put 11 (.ex (.cal 4 (.cons (.var 1) (.cons (.var 2) (.cons (.var 4) (.cons (.ite (.val (.cmp .eq (.var 9) (.cst (.int 1)))) (.var 8) (.blt .min (.cons (.var 8) (.cons (.var 4) .nil)))) .nil))))))) (.cons (.ife (.val (.cmp .ge (.var 11) (.var 7))) (.cons (.app 3 (.tup (.cons (.var 4) (.cons (.var 11) .nil)))) .nil) .nil) .nil))
def b_copies_of : Fn := ⟨3, 12, (.cons (.set (.tp [(.nm 5), (.nm 6), (.nm 7), (.nm 8), (.nm 9), (.nm 10)]) (.var 0)) (.cons (.put 3 (.new .nil)) (.cons (.for_ (.nm 4) (.rg2 (.cst (.int 1)) (.bop .add (.blt .min (.cons (.var 6) (.cons (.var 2) .nil))) (.cst (.int 1)))) s_copies_of_0) (.cons (.ret (.var 3)) .nil))))⟩
def e_best_of_0 : Ex := (.var 6)
def t_best_of_1 : Tx := (.val (.cmp .eq (.sub (.var 6) (.cst (.int 1))) (.var 4)))
def c_best_of_2 : Ex := (.cmpc e_best_of_0 (.nm 6) (.seq (.var 3)) t_best_of_1 [6])
def e_best_of_3 : Ex := (.var 8)
def c_best_of_4 : Ex := (.cmp1 e_best_of_3 (.tp [(.nm 7), (.nm 8)]) (.seq (.var 3)) [7, 8])
def b_best_of : Fn := ⟨3, 9, (.cons (.put 3 (.ex (.cal 5 (.cons (.var 0) (.cons (.var 1) (.cons (.var 2) .nil)))))) (.cons (.ife (.val (.cmp .eq (.var 3) (.lst .nil))) (.cons (.ret (.cst .non)) .nil) .nil) (.cons (.put 4 (.ex (.blt .max (.cons c_best_of_4 .nil)))) (.cons (.put 5 (.ex c_best_of_2)) (.cons (.ret (.ite (.val (.cmp .eq (.sub (.var 0) (.cst (.int 5))) (.cst (.str [110, 101, 97, 114])))) (.sub (.var 5) (.cst (.int 0))) (.sub (.var 5) (.neg (.cst (.int 1)))))) .nil)))))⟩
def b_cover_of : Fn := ⟨3, 4, (.cons (.put 3 (.ex (.cal 6 (.cons (.var 0) (.cons (.var 1) (.cons (.var 2) .nil)))))) (.cons (.ret (.ite (.val (.cmp .isn (.var 3) (.cst .non))) (.sub (.var 3) (.cst (.int 1))) (.ite (.val (.cmp .lt (.var 2) (.blt .len (.cons (.var 1) .nil)))) (.cst (.int 1)) (.cst (.int 0))))) .nil))⟩
def b_size_of : Fn := ⟨1, 1, (.cons (.ret (.ite (.val (.cmp .eq (.sub (.var 0) (.cst (.int 0))) (.cst (.int 0)))) (.cst (.int 1)) (.sub (.var 0) (.cst (.int 1))))) .nil)⟩
def b_leaves_out : Fn := ⟨4, 5, (.cons (.ife (.val (.cmp .eq (.sub (.var 0) (.cst (.int 0))) (.cst (.str [110, 111, 119])))) (.cons (.ret (.cst (.bl false))) .nil) .nil) (.cons (.put 4 (.ex (.cal 10 (.cons (.var 0) (.cons (.var 1) (.cons (.bop .add (.var 2) (.cst (.int 1))) .nil)))))) (.cons (.ife (.val (.cmp .eq (.sub (.var 0) (.cst (.int 0))) (.cst (.str [110, 101, 120, 116])))) (.cons (.ret (.cmp .gt (.var 4) (.sub (.var 3) (.cst (.int 1))))) .nil) .nil) (.cons (.ret (.cmp .lt (.bop .add (.sub (.var 3) (.cst (.int 1))) (.cal 10 (.cons (.var 0) (.cons (.var 1) (.cons (.bop .add (.var 2) (.sub (.var 3) (.cst (.int 1)))) .nil))))) (.bop .add (.cst (.int 1)) (.var 4)))) .nil))))⟩
def b_token_at : Fn := ⟨3, 4, (.cons (.put 3 (.ex (.cal 6 (.cons (.var 0) (.cons (.var 1) (.cons (.var 2) .nil)))))) (.cons (.ife (.or (.val (.cmp .is (.var 3) (.cst .non))) (.val (.cal 11 (.cons (.var 0) (.cons (.var 1) (.cons (.var 2) (.cons (.var 3) .nil))))))) (.cons (.ret (.tup (.cons (.cst (.int 0)) (.cons (.sub (.var 1) (.var 2)) .nil)))) .nil) .nil) (.cons (.ret (.var 3)) .nil)))⟩
def e_rests_of_0 : Ex := (.sub (.var 2) (.bop .add (.var 3) (.var 7)))
def c_rests_of_1 : Ex := (.cmp1 e_rests_of_0 (.nm 7) (.rg2 (.sub (.var 0) (.cst (.int 2))) (.bop .add (.var 6) (.cst (.int 1)))) [7])
def s_rests_of_2 : Ss := (.cons (.ext 4 c_rests_of_1) .nil)
def s_rests_of_3 : Ss := (.cons (.put 4 (.new (.cons (.sub (.var 2) (.bop .add (.var 3) (.cst (.int 1)))) .nil))) (.cons (.for_ (.tp [(.nm 5), (.nm 6)]) (.seq (.cal 5 (.cons (.var 0) (.cons (.var 1) (.cons (.var 3) .nil))))) s_rests_of_2) (.cons (.sti 2 (.var 3) (.bop .add (.cst (.int 1)) (.blt .min (.cons (.var 4) .nil)))) .nil)))
def b_rests_of : Fn := ⟨2, 8, (.cons (.put 2 (.rep (.cons (.cst (.int 0)) .nil) (.bop .add (.blt .len (.cons (.var 1) .nil)) (.cst (.int 1))))) (.cons (.for_ (.nm 3) (.rg3 (.bop .sub (.blt .len (.cons (.var 1) .nil)) (.cst (.int 1))) (.neg (.cst (.int 1))) (.neg (.cst (.int 1)))) s_rests_of_3) (.cons (.ret (.var 2)) .nil)))⟩
def e_fewest_at_0 : Ex := (.var 8)
def t_fewest_at_1 : Tx := (.val (.cmp .eq (.sub (.var 3) (.bop .add (.var 2) (.var 8))) (.bop .sub (.sub (.var 3) (.var 2)) (.cst (.int 1)))))
def c_fewest_at_2 : Ex := (.cmpc e_fewest_at_0 (.nm 8) (.rg2 (.sub (.var 0) (.cst (.int 2))) (.bop .add (.var 6) (.cst (.int 1)))) t_fewest_at_1 [8])
def s_fewest_at_3 : Ss := (.cons (.put 7 (.ex c_fewest_at_2)) (.cons (.ife (.and (.val (.cmp .ne (.var 7) (.lst .nil))) (.or (.val (.cmp .gt (.sub (.var 7) (.neg (.cst (.int 1)))) (.cal 12 (.cons (.var 4) .nil)))) (.and (.val (.cmp .eq (.sub (.var 7) (.neg (.cst (.int 1)))) (.cal 12 (.cons (.var 4) .nil)))) (.val (.cmp .eq (.sub (.var 0) (.cst (.int 5))) (.cst (.str [102, 97, 114]))))))) (.cons (.put 4 (.ex (.tup (.cons (.var 5) (.cons (.sub (.var 7) (.neg (.cst (.int 1)))) .nil))))) .nil) .nil) .nil))
def b_fewest_at : Fn := ⟨4, 9, (.cons (.put 4 (.ex (.tup (.cons (.cst (.int 0)) (.cons (.sub (.var 1) (.var 2)) .nil))))) (.cons (.for_ (.tp [(.nm 5), (.nm 6)]) (.seq (.cal 5 (.cons (.var 0) (.cons (.var 1) (.cons (.var 2) .nil))))) s_fewest_at_3) (.cons (.ret (.var 4)) .nil)))⟩
def t_tokens_of_0 : Tx := (.val (.cmp .lt (.var 3) (.blt .len (.cons (.var 1) .nil))))
def s_tokens_of_1 : Ss := (.cons (.put 5 (.ex (.ite (.val (.cmp .eq (.sub (.var 0) (.cst (.int 0))) (.cst (.str [102, 101, 119, 101, 115, 116])))) (.cal 13 (.cons (.var 0) (.cons (.var 1) (.cons (.var 3) (.cons (.var 2) .nil))))) (.cal 14 (.cons (.var 0) (.cons (.var 1) (.cons (.var 3) .nil))))))) (.cons (.app 4 (.var 5)) (.cons (.aug 3 .add (.cal 12 (.cons (.var 5) .nil))) .nil)))
def b_tokens_of : Fn := ⟨2, 6, (.cons (.par [3, 4] [(.ex (.cst (.int 0))), (.new .nil)]) (.cons (.put 2 (.ex (.ite (.val (.cmp .eq (.sub (.var 0) (.cst (.int 0))) (.cst (.str [102, 101, 119, 101, 115, 116])))) (.cal 15 (.cons (.var 0) (.cons (.var 1) .nil))) (.lst .nil)))) (.cons (.whl t_tokens_of_0 s_tokens_of_1) (.cons (.ret (.blt .tuple (.cons (.var 4) .nil))) .nil))))⟩
def e_seen_of_0 : Ex := (.cal 12 (.cons (.var 2) .nil))
def c_seen_of_1 : Ex := (.cmp1 e_seen_of_0 (.nm 2) (.seq (.var 0)) [2])
def b_seen_of : Fn := ⟨2, 3, (.cons (.ife (.val (.cmp .eq (.var 1) (.cst (.str [110, 117, 109, 98, 101, 114])))) (.cons (.ret (.blt .len (.cons (.var 0) .nil))) .nil) .nil) (.cons (.ret (.ite (.val (.cmp .eq (.var 1) (.cst (.str [108, 101, 110, 103, 116, 104, 115])))) (.blt .tuple (.cons c_seen_of_1 .nil)) (.var 0))) .nil))⟩
def b_write : Fn := ⟨2, 2, (.cons (.exp (.cal 9 (.cons (.var 0) .nil))) (.cons (.exp (.cal 8 (.cons (.var 1) .nil))) (.cons (.ret (.cal 16 (.cons (.var 0) (.cons (.var 1) .nil)))) .nil)))⟩
def b_see : Fn := ⟨3, 3, (.cons (.exp (.cal 9 (.cons (.var 0) .nil))) (.cons (.exp (.cal 8 (.cons (.var 1) .nil))) (.cons (.exp (.cal 18 (.cons (.var 2) .nil))) (.cons (.ret (.cal 17 (.cons (.cal 16 (.cons (.var 0) (.cons (.var 1) .nil))) (.cons (.var 2) .nil)))) .nil))))⟩
def b_least_number : Fn := ⟨2, 2, (.cons (.exp (.cal 9 (.cons (.var 0) .nil))) (.cons (.exp (.cal 8 (.cons (.var 1) .nil))) (.cons (.ret (.sub (.cal 15 (.cons (.var 0) (.cons (.var 1) .nil))) (.cst (.int 0)))) .nil)))⟩
inductive Look where | fewest | next | now | two
deriving DecidableEq
structure Way where
  look : Look
  win : Nat
  least : Nat
  most : Nat
  own : Nat
  far : Bool
def lookS : Look → List Nat
  | .fewest => [102, 101, 119, 101, 115, 116]
  | .next => [110, 101, 120, 116]
  | .now => [110, 111, 119]
  | .two => [116, 119, 111]
def tieS : Bool → List Nat
  | true => [102, 97, 114]
  | false => [110, 101, 97, 114]
def Way.d (w : Way) : D := .tup [.str (lookS w.look), .int w.win, .int w.least, .int w.most, .int w.own, .str (tieS w.far)]
structure Way.Ok (w : Way) : Prop where
  w1 : 2 ≤ w.win
  w2 : w.win ≤ 4
  l1 : 2 ≤ w.least
  l2 : w.least ≤ 3
  m1 : w.least ≤ w.most
  m2 : w.most ≤ 4
  o : w.own ≤ 1

/-! ### length_at -/
/-- how many letters are as those b before, at most m -/
def lenAt (s : List Nat) (p b : Nat) : Nat → Nat
  | 0 => 0
  | m + 1 => if p < s.length ∧ s[p]? = s[p - b]? then 1 + lenAt s (p + 1) b m else 0
theorem len_loop {gc : Gc} {cl : Cl} {wn : Nat} {s : List Nat} (hs : AB s) (hl : s.length ≤ 1000) (p b m : Nat) : ∀ (n i : Nat), i + n = m → b ≤ p + i → ∀ w, n + 1 ≤ w →
    whlL (fun e h => evT gc cl t_length_at_0 e h) (fun e h => exSs gc cl wn s_length_at_1 e h) w [vs s, vi p, vi b, vi m, vi i] []
    = .ret (.nx [vs s, vi p, vi b, vi m, vi (i + lenAt s (p + i) b n : Nat)] []) := by
  intro n
  induction n with
  | zero =>
    intro i hi hp w hw
    obtain ⟨w, rfl⟩ : ∃ v, w = v + 1 := ⟨w - 1, by omega⟩
    have h1 : decide ((i : Int) < (m : Int)) = false := decide_eq_false (by omega)
    rw [whl_stop (by simp only [runF, exSs, exS, evE, evEs, evO, evT, evR, evRs, bnd, onE, onN, F.bind, op2, rdV, rdVs, lfD, lf, bopD, cmpD, bltD, truD, dats, dats0, isScal, anyR, asg, asgs, endD, sets, noEx, isOwn, add_ii, sub_ii, lt_ii, gt_ii, le_ii, isD, Option.map_some, Option.map_none, Option.bind_some, Option.bind_none, Option.map, Option.bind, List.getD_cons_zero, List.getD_cons_succ, List.set_cons_zero, List.set_cons_succ, List.length_cons, List.length_nil, List.map_cons, List.map_nil, List.cons_append, List.nil_append, List.replicate, Nat.reduceAdd, Nat.reduceSub, Nat.reduceLT, Nat.reduceLeDiff, Nat.reduceBEq, Nat.beq, Nat.ble, if_true, if_false, ite_true, ite_false, reduceIte, Bool.not_true, Bool.not_false, Bool.or_true, Bool.true_or, Bool.false_or, Bool.or_false, List.getElem?_cons_zero, List.getElem?_cons_succ, t_length_at_0, h1])]
    rfl
  | succ n ih =>
    intro i hi hp w hw
    obtain ⟨w, rfl⟩ : ∃ v, w = v + 1 := ⟨w - 1, by omega⟩
    have h1 : decide ((i : Int) < (m : Int)) = true := decide_eq_true (by omega)
    by_cases h2 : p + i < s.length
    · have h2' : decide ((p : Int) + (i : Int) < (s.length : Int)) = true := decide_eq_true (by omega)
      have e1 := sub_str (z := (p : Int) + (i : Int)) hl (by omega) h2
      have e2 := sub_str (z := (p : Int) + (i : Int) - (b : Int)) (n := p + i - b) hl (by omega) (by omega)
      have e3 := eq_chr (hs _ (List.getElem_mem h2)) (hs _ (List.getElem_mem (show p + i - b < s.length by omega)))
      by_cases h3 : s[p + i] = s[p + i - b]
      · have h4 : lenAt s (p + i) b (n + 1) = 1 + lenAt s (p + (i + 1)) b n := by
          rw [lenAt, if_pos ⟨h2, by rw [List.getElem?_eq_getElem h2, List.getElem?_eq_getElem (show p + i - b < s.length by omega), h3]⟩, Nat.add_assoc]
        rw [decide_eq_true h3] at e3
        rw [whl_step (e2 := [vs s, vi p, vi b, vi m, vi ((i + 1 : Nat) : Int)]) (h2 := []) (by simp only [runF, exSs, exS, evE, evEs, evO, evT, evR, evRs, bnd, onE, onN, F.bind, op2, rdV, rdVs, lfD, lf, bopD, cmpD, bltD, truD, dats, dats0, isScal, anyR, asg, asgs, endD, sets, noEx, isOwn, add_ii, sub_ii, lt_ii, gt_ii, le_ii, isD, Option.map_some, Option.map_none, Option.bind_some, Option.bind_none, Option.map, Option.bind, List.getD_cons_zero, List.getD_cons_succ, List.set_cons_zero, List.set_cons_succ, List.length_cons, List.length_nil, List.map_cons, List.map_nil, List.cons_append, List.nil_append, List.replicate, Nat.reduceAdd, Nat.reduceSub, Nat.reduceLT, Nat.reduceLeDiff, Nat.reduceBEq, Nat.beq, Nat.ble, if_true, if_false, ite_true, ite_false, reduceIte, Bool.not_true, Bool.not_false, Bool.or_true, Bool.true_or, Bool.false_or, Bool.or_false, List.getElem?_cons_zero, List.getElem?_cons_succ, t_length_at_0, h1, h2', len_str hl, e1, e2, e3]) (by simp only [runF, exSs, exS, evE, evEs, evO, evT, evR, evRs, bnd, onE, onN, F.bind, op2, rdV, rdVs, lfD, lf, bopD, cmpD, bltD, truD, dats, dats0, isScal, anyR, asg, asgs, endD, sets, noEx, isOwn, add_ii, sub_ii, lt_ii, gt_ii, le_ii, isD, Option.map_some, Option.map_none, Option.bind_some, Option.bind_none, Option.map, Option.bind, List.getD_cons_zero, List.getD_cons_succ, List.set_cons_zero, List.set_cons_succ, List.length_cons, List.length_nil, List.map_cons, List.map_nil, List.cons_append, List.nil_append, List.replicate, Nat.reduceAdd, Nat.reduceSub, Nat.reduceLT, Nat.reduceLeDiff, Nat.reduceBEq, Nat.beq, Nat.ble, if_true, if_false, ite_true, ite_false, reduceIte, Bool.not_true, Bool.not_false, Bool.or_true, Bool.true_or, Bool.false_or, Bool.or_false, List.getElem?_cons_zero, List.getElem?_cons_succ, s_length_at_1, vi, Int.natCast_add, Int.cast_ofNat_Int]), ih (i + 1) (by omega) (by omega) w (by omega), h4, Nat.add_assoc]
      · have h4 : lenAt s (p + i) b (n + 1) = 0 := by
          rw [lenAt, if_neg fun z => h3 (by have := z.2; rw [List.getElem?_eq_getElem h2, List.getElem?_eq_getElem (show p + i - b < s.length by omega)] at this; exact Option.some.inj this)]
        rw [decide_eq_false h3] at e3
        rw [whl_stop (by simp only [runF, exSs, exS, evE, evEs, evO, evT, evR, evRs, bnd, onE, onN, F.bind, op2, rdV, rdVs, lfD, lf, bopD, cmpD, bltD, truD, dats, dats0, isScal, anyR, asg, asgs, endD, sets, noEx, isOwn, add_ii, sub_ii, lt_ii, gt_ii, le_ii, isD, Option.map_some, Option.map_none, Option.bind_some, Option.bind_none, Option.map, Option.bind, List.getD_cons_zero, List.getD_cons_succ, List.set_cons_zero, List.set_cons_succ, List.length_cons, List.length_nil, List.map_cons, List.map_nil, List.cons_append, List.nil_append, List.replicate, Nat.reduceAdd, Nat.reduceSub, Nat.reduceLT, Nat.reduceLeDiff, Nat.reduceBEq, Nat.beq, Nat.ble, if_true, if_false, ite_true, ite_false, reduceIte, Bool.not_true, Bool.not_false, Bool.or_true, Bool.true_or, Bool.false_or, Bool.or_false, List.getElem?_cons_zero, List.getElem?_cons_succ, t_length_at_0, h1, h2', len_str hl, e1, e2, e3]), h4]
        rfl
    · have h2' : decide ((p : Int) + (i : Int) < (s.length : Int)) = false := decide_eq_false (by omega)
      have h4 : lenAt s (p + i) b (n + 1) = 0 := by rw [lenAt, if_neg fun z => h2 z.1]
      rw [whl_stop (by simp only [runF, exSs, exS, evE, evEs, evO, evT, evR, evRs, bnd, onE, onN, F.bind, op2, rdV, rdVs, lfD, lf, bopD, cmpD, bltD, truD, dats, dats0, isScal, anyR, asg, asgs, endD, sets, noEx, isOwn, add_ii, sub_ii, lt_ii, gt_ii, le_ii, isD, Option.map_some, Option.map_none, Option.bind_some, Option.bind_none, Option.map, Option.bind, List.getD_cons_zero, List.getD_cons_succ, List.set_cons_zero, List.set_cons_succ, List.length_cons, List.length_nil, List.map_cons, List.map_nil, List.cons_append, List.nil_append, List.replicate, Nat.reduceAdd, Nat.reduceSub, Nat.reduceLT, Nat.reduceLeDiff, Nat.reduceBEq, Nat.beq, Nat.ble, if_true, if_false, ite_true, ite_false, reduceIte, Bool.not_true, Bool.not_false, Bool.or_true, Bool.true_or, Bool.false_or, Bool.or_false, List.getElem?_cons_zero, List.getElem?_cons_succ, t_length_at_0, h1, h2', len_str hl]), h4]
      rfl
theorem c_length_at {gc : Gc} {T : Tab} {wn k : Nat} [Has T 4 b_length_at] {s : List Nat} (hs : AB s) (hl : s.length ≤ 1000) {p b m : Nat} (hb : b ≤ p) (hm : m < wn) :
    callF gc T wn (k + 1) 4 [.str s, .int p, .int b, .int m] = ok (.int (lenAt s p b m)) := by
  rw [call_has b_length_at]
  have e := len_loop (gc := gc) (cl := callF gc T wn k) (wn := wn) hs hl p b m m 0 (by omega) (by omega) wn (by omega)
  rw [Nat.zero_add] at e
  simp only [vi, vs, Int.cast_ofNat_Int, Nat.add_zero] at e
  simp only [runF, exSs, exS, evE, evEs, evO, evT, evR, evRs, bnd, onE, onN, F.bind, op2, rdV, rdVs, lfD, lf, bopD, cmpD, bltD, truD, dats, dats0, isScal, anyR, asg, asgs, endD, sets, noEx, isOwn, add_ii, sub_ii, lt_ii, gt_ii, le_ii, isD, Option.map_some, Option.map_none, Option.bind_some, Option.bind_none, Option.map, Option.bind, List.getD_cons_zero, List.getD_cons_succ, List.set_cons_zero, List.set_cons_succ, List.length_cons, List.length_nil, List.map_cons, List.map_nil, List.cons_append, List.nil_append, List.replicate, Nat.reduceAdd, Nat.reduceSub, Nat.reduceLT, Nat.reduceLeDiff, Nat.reduceBEq, Nat.beq, Nat.ble, if_true, if_false, ite_true, ite_false, reduceIte, Bool.not_true, Bool.not_false, Bool.or_true, Bool.true_or, Bool.false_or, Bool.or_false, List.getElem?_cons_zero, List.getElem?_cons_succ, b_length_at, e]
/-! ### ways and texts -/
section
variable {gc : Gc} {T : Tab} {wn k : Nat}
theorem c_is_between [Has T 1 b_is_between] (v lo hi : Int) : callF gc T wn (k + 1) 1 [.int v, .int lo, .int hi] = ok (.bl (decide (lo ≤ v) && decide (v ≤ hi))) := by
  rw [call_has b_is_between]
  cases h1 : decide (lo ≤ v) with
  | true => simp only [runF, exSs, exS, evE, evEs, evO, evT, evR, evRs, bnd, onE, onN, F.bind, op2, rdV, rdVs, lfD, lf, bopD, cmpD, bltD, truD, dats, dats0, isScal, anyR, asg, asgs, endD, sets, noEx, isOwn, add_ii, sub_ii, lt_ii, gt_ii, le_ii, isD, Option.map_some, Option.map_none, Option.bind_some, Option.bind_none, Option.map, Option.bind, List.getD_cons_zero, List.getD_cons_succ, List.set_cons_zero, List.set_cons_succ, List.length_cons, List.length_nil, List.map_cons, List.map_nil, List.cons_append, List.nil_append, List.replicate, Nat.reduceAdd, Nat.reduceSub, Nat.reduceLT, Nat.reduceLeDiff, Nat.reduceBEq, Nat.beq, Nat.ble, if_true, if_false, ite_true, ite_false, reduceIte, Bool.not_true, Bool.not_false, Bool.or_true, Bool.true_or, Bool.false_or, Bool.or_false, List.getElem?_cons_zero, List.getElem?_cons_succ, b_is_between, ityD, h1, Bool.true_and]
  | false => simp only [runF, exSs, exS, evE, evEs, evO, evT, evR, evRs, bnd, onE, onN, F.bind, op2, rdV, rdVs, lfD, lf, bopD, cmpD, bltD, truD, dats, dats0, isScal, anyR, asg, asgs, endD, sets, noEx, isOwn, add_ii, sub_ii, lt_ii, gt_ii, le_ii, isD, Option.map_some, Option.map_none, Option.bind_some, Option.bind_none, Option.map, Option.bind, List.getD_cons_zero, List.getD_cons_succ, List.set_cons_zero, List.set_cons_succ, List.length_cons, List.length_nil, List.map_cons, List.map_nil, List.cons_append, List.nil_append, List.replicate, Nat.reduceAdd, Nat.reduceSub, Nat.reduceLT, Nat.reduceLeDiff, Nat.reduceBEq, Nat.beq, Nat.ble, if_true, if_false, ite_true, ite_false, reduceIte, Bool.not_true, Bool.not_false, Bool.or_true, Bool.true_or, Bool.false_or, Bool.or_false, List.getElem?_cons_zero, List.getElem?_cons_succ, b_is_between, ityD, h1, Bool.false_and]
abbrev LOOKSd : D := .tup [.str [102, 101, 119, 101, 115, 116], .str [110, 101, 120, 116], .str [110, 111, 119], .str [116, 119, 111]]
abbrev TIESd : D := .tup [.str [102, 97, 114], .str [110, 101, 97, 114]]
abbrev SIGHTSd : D := .tup [.str [108, 101, 110, 103, 116, 104, 115], .str [110, 117, 109, 98, 101, 114], .str [116, 111, 107, 101, 110, 115]]
theorem c_is_word [Has T 0 b_is_word] (v : List Nat) (ws : List D) (b : Bool) (h : isinD (.str v) (.tup ws) = some b) : callF gc T wn (k + 1) 0 [.str v, .tup ws] = ok (.bl b) := by
  rw [call_has b_is_word]
  simp only [runF, exSs, exS, evE, evEs, evO, evT, evR, evRs, bnd, onE, onN, F.bind, op2, rdV, rdVs, lfD, lf, bopD, cmpD, bltD, truD, dats, dats0, isScal, anyR, asg, asgs, endD, sets, noEx, isOwn, add_ii, sub_ii, lt_ii, gt_ii, le_ii, isD, Option.map_some, Option.map_none, Option.bind_some, Option.bind_none, Option.map, Option.bind, List.getD_cons_zero, List.getD_cons_succ, List.set_cons_zero, List.set_cons_succ, List.length_cons, List.length_nil, List.map_cons, List.map_nil, List.cons_append, List.nil_append, List.replicate, Nat.reduceAdd, Nat.reduceSub, Nat.reduceLT, Nat.reduceLeDiff, Nat.reduceBEq, Nat.beq, Nat.ble, if_true, if_false, ite_true, ite_false, reduceIte, Bool.not_true, Bool.not_false, Bool.or_true, Bool.true_or, Bool.false_or, Bool.or_false, List.getElem?_cons_zero, List.getElem?_cons_succ, b_is_word, ityD, h]
theorem at6 (a b c d e f : D) : atD [a, b, c, d, e, f] 0 = some a ∧ atD [a, b, c, d, e, f] 1 = some b ∧ atD [a, b, c, d, e, f] 2 = some c ∧ atD [a, b, c, d, e, f] 3 = some d ∧ atD [a, b, c, d, e, f] 4 = some e ∧ atD [a, b, c, d, e, f] 5 = some f := ⟨rfl, rfl, rfl, rfl, rfl, rfl⟩
theorem c_is_way [Has T 1 b_is_between] [Has T 0 b_is_word] [Has T 2 b_is_way] [hL : HasG gc 1 LOOKSd] [hT : HasG gc 0 TIESd] {w : Way} (hw : w.Ok) : callF gc T wn (k + 2) 2 [w.d] = ok (.bl true) := by
  rw [call_has b_is_way]
  have h1 : isinD (.str (lookS w.look)) LOOKSd = some true := by cases w.look <;> rfl
  have h2 : isinD (.str (tieS w.far)) TIESd = some true := by cases w.far <;> rfl
  obtain ⟨a0, a1, a2, a3, a4, a5⟩ := at6 (.str (lookS w.look)) (.int w.win) (.int w.least) (.int w.most) (.int w.own) (.str (tieS w.far))
  have b1 : (decide ((2 : Int) ≤ (w.win : Int)) && decide ((w.win : Int) ≤ 4)) = true := by have := hw.w1; have := hw.w2; simp; omega
  have b2 : (decide ((2 : Int) ≤ (w.least : Int)) && decide ((w.least : Int) ≤ 3)) = true := by have := hw.l1; have := hw.l2; simp; omega
  have b3 : (decide ((w.least : Int) ≤ (w.most : Int)) && decide ((w.most : Int) ≤ 4)) = true := by have := hw.m1; have := hw.m2; simp; omega
  have b4 : (decide ((0 : Int) ≤ (w.own : Int)) && decide ((w.own : Int) ≤ 1)) = true := by have := hw.o; simp; omega
  have e6 : eqD (D.int ((6 : Nat) : Int)) (D.int 6) = some true := rfl
  simp only [runF, exSs, exS, evE, evEs, evO, evT, evR, evRs, bnd, onE, onN, F.bind, op2, rdV, rdVs, lfD, lf, bopD, cmpD, bltD, truD, dats, dats0, isScal, anyR, asg, asgs, endD, sets, noEx, isOwn, add_ii, sub_ii, lt_ii, gt_ii, le_ii, isD, Option.map_some, Option.map_none, Option.bind_some, Option.bind_none, Option.map, Option.bind, List.getD_cons_zero, List.getD_cons_succ, List.set_cons_zero, List.set_cons_succ, List.length_cons, List.length_nil, List.map_cons, List.map_nil, List.cons_append, List.nil_append, List.replicate, Nat.reduceAdd, Nat.reduceSub, Nat.reduceLT, Nat.reduceLeDiff, Nat.reduceBEq, Nat.beq, Nat.ble, if_true, if_false, ite_true, ite_false, reduceIte, Bool.not_true, Bool.not_false, Bool.or_true, Bool.true_or, Bool.false_or, Bool.or_false, List.getElem?_cons_zero, List.getElem?_cons_succ, b_is_way, Way.d, ityD, lenD, subD, e6, a0, a1, a2, a3, a4, a5, hL.h, hT.h, c_is_word _ _ _ h1, c_is_word _ _ _ h2, c_is_between, b1, b2, b3, b4]
theorem c_check_way [Has T 1 b_is_between] [Has T 0 b_is_word] [Has T 2 b_is_way] [Has T 9 b_check_way] [HasG gc 1 LOOKSd] [HasG gc 0 TIESd] {w : Way} (hw : w.Ok) : callF gc T wn (k + 3) 9 [w.d] = ok .non := by
  rw [call_has b_check_way]
  simp only [runF, exSs, exS, evE, evEs, evO, evT, evR, evRs, bnd, onE, onN, F.bind, op2, rdV, rdVs, lfD, lf, bopD, cmpD, bltD, truD, dats, dats0, isScal, anyR, asg, asgs, endD, sets, noEx, isOwn, add_ii, sub_ii, lt_ii, gt_ii, le_ii, isD, Option.map_some, Option.map_none, Option.bind_some, Option.bind_none, Option.map, Option.bind, List.getD_cons_zero, List.getD_cons_succ, List.set_cons_zero, List.set_cons_succ, List.length_cons, List.length_nil, List.map_cons, List.map_nil, List.cons_append, List.nil_append, List.replicate, Nat.reduceAdd, Nat.reduceSub, Nat.reduceLT, Nat.reduceLeDiff, Nat.reduceBEq, Nat.beq, Nat.ble, if_true, if_false, ite_true, ite_false, reduceIte, Bool.not_true, Bool.not_false, Bool.or_true, Bool.true_or, Bool.false_or, Bool.or_false, List.getElem?_cons_zero, List.getElem?_cons_succ, b_check_way, c_is_way hw]
theorem in_ab {c : Nat} (h : c = 97 ∨ c = 98) : isinD (.str [c]) (.str [97, 98]) = some true := by rcases h with rfl | rfl <;> rfl
theorem c_is_text [Has T 3 b_is_text] {s : List Nat} (hs : AB s) (hl : s.length ≤ 24) : callF gc T wn (k + 1) 3 [.str s] = ok (.bl true) := by
  rw [call_has b_is_text]
  have h1 : decide ((s.length : Int) ≤ 24) = true := decide_eq_true (by omega)
  have e : evE gc (callF gc T wn k) c_is_text_1 [vs s, none] [] = ok (.d (.lst (s.map fun _ => D.bl true))) := ev_cmp1 (gc := gc) (cl := callF gc T wn k) (tg := .nm 1) (e := [vs s, none]) (h := []) (elt := e_is_text_0) (it := .seq (.var 0)) (own := [1]) (enc := fun c => D.str [c]) (ys := s) (fun _ => D.bl true)
    (ev_seq (d := .str s) (by simp only [runF, exSs, exS, evE, evEs, evO, evT, evR, evRs, bnd, onE, onN, F.bind, op2, rdV, rdVs, lfD, lf, bopD, cmpD, bltD, truD, dats, dats0, isScal, anyR, asg, asgs, endD, sets, noEx, isOwn, add_ii, sub_ii, lt_ii, gt_ii, le_ii, isD, Option.map_some, Option.map_none, Option.bind_some, Option.bind_none, Option.map, Option.bind, List.getD_cons_zero, List.getD_cons_succ, List.set_cons_zero, List.set_cons_succ, List.length_cons, List.length_nil, List.map_cons, List.map_nil, List.cons_append, List.nil_append, List.replicate, Nat.reduceAdd, Nat.reduceSub, Nat.reduceLT, Nat.reduceLeDiff, Nat.reduceBEq, Nat.beq, Nat.ble, if_true, if_false, ite_true, ite_false, reduceIte, Bool.not_true, Bool.not_false, Bool.or_true, Bool.true_or, Bool.false_or, Bool.or_false, List.getElem?_cons_zero, List.getElem?_cons_succ]) (if_pos (show s.length ≤ 1000000 by omega))) (by omega) fun c hc => ⟨[vs s, vs [c]], rfl, by simp only [runF, exSs, exS, evE, evEs, evO, evT, evR, evRs, bnd, onE, onN, F.bind, op2, rdV, rdVs, lfD, lf, bopD, cmpD, bltD, truD, dats, dats0, isScal, anyR, asg, asgs, endD, sets, noEx, isOwn, add_ii, sub_ii, lt_ii, gt_ii, le_ii, isD, Option.map_some, Option.map_none, Option.bind_some, Option.bind_none, Option.map, Option.bind, List.getD_cons_zero, List.getD_cons_succ, List.set_cons_zero, List.set_cons_succ, List.length_cons, List.length_nil, List.map_cons, List.map_nil, List.cons_append, List.nil_append, List.replicate, Nat.reduceAdd, Nat.reduceSub, Nat.reduceLT, Nat.reduceLeDiff, Nat.reduceBEq, Nat.beq, Nat.ble, if_true, if_false, ite_true, ite_false, reduceIte, Bool.not_true, Bool.not_false, Bool.or_true, Bool.true_or, Bool.false_or, Bool.or_false, List.getElem?_cons_zero, List.getElem?_cons_succ, e_is_text_0, in_ab (hs c hc)]⟩
  simp only [vs] at e
  rw [b_is_text, runF]
  simp only [runF, exSs, exS, evE, evEs, evO, evT, evR, evRs, bnd, onE, onN, F.bind, op2, rdV, rdVs, lfD, lf, bopD, cmpD, bltD, truD, dats, dats0, isScal, anyR, asg, asgs, endD, sets, noEx, isOwn, add_ii, sub_ii, lt_ii, gt_ii, le_ii, isD, Option.map_some, Option.map_none, Option.bind_some, Option.bind_none, Option.map, Option.bind, List.getD_cons_zero, List.getD_cons_succ, List.set_cons_zero, List.set_cons_succ, List.length_cons, List.length_nil, List.map_cons, List.map_nil, List.cons_append, List.nil_append, List.replicate, Nat.reduceAdd, Nat.reduceSub, Nat.reduceLT, Nat.reduceLeDiff, Nat.reduceBEq, Nat.beq, Nat.ble, if_true, if_false, ite_true, ite_false, reduceIte, Bool.not_true, Bool.not_false, Bool.or_true, Bool.true_or, Bool.false_or, Bool.or_false, List.getElem?_cons_zero, List.getElem?_cons_succ, ityD, len_str (show s.length ≤ 1000 by omega), h1, e, all_true]
theorem c_check_text [Has T 3 b_is_text] [Has T 8 b_check_text] {s : List Nat} (hs : AB s) (hl : s.length ≤ 24) : callF gc T wn (k + 2) 8 [.str s] = ok .non := by
  rw [call_has b_check_text]
  simp only [runF, exSs, exS, evE, evEs, evO, evT, evR, evRs, bnd, onE, onN, F.bind, op2, rdV, rdVs, lfD, lf, bopD, cmpD, bltD, truD, dats, dats0, isScal, anyR, asg, asgs, endD, sets, noEx, isOwn, add_ii, sub_ii, lt_ii, gt_ii, le_ii, isD, Option.map_some, Option.map_none, Option.bind_some, Option.bind_none, Option.map, Option.bind, List.getD_cons_zero, List.getD_cons_succ, List.set_cons_zero, List.set_cons_succ, List.length_cons, List.length_nil, List.map_cons, List.map_nil, List.cons_append, List.nil_append, List.replicate, Nat.reduceAdd, Nat.reduceSub, Nat.reduceLT, Nat.reduceLeDiff, Nat.reduceBEq, Nat.beq, Nat.ble, if_true, if_false, ite_true, ite_false, reduceIte, Bool.not_true, Bool.not_false, Bool.or_true, Bool.true_or, Bool.false_or, Bool.or_false, List.getElem?_cons_zero, List.getElem?_cons_succ, b_check_text, c_is_text hs hl]
/-! ### copies_of -/
def cap (w : Way) (b : Nat) : Nat := if w.own = 1 then w.most else min w.most b
def cpD (c : Nat × Nat) : D := .tup [.int c.1, .int c.2]
/-- one back's copy -/
def cp1 (w : Way) (s : List Nat) (p i : Nat) : Option (Nat × Nat) := if w.least ≤ lenAt s p (1 + i) (cap w (1 + i)) then some (1 + i, lenAt s p (1 + i) (cap w (1 + i))) else none
/-- the copies: for each back the longest -/
def cps (w : Way) (s : List Nat) (p : Nat) : List (Nat × Nat) := (List.range (min w.win p)).filterMap (cp1 w s p)
theorem c_copies_of [Has T 4 b_length_at] [Has T 5 b_copies_of] {w : Way} (hw : w.Ok) {s : List Nat} (hs : AB s) (hl : s.length ≤ 1000) (p : Nat) (hp : p ≤ 1000) (hn : 10 ≤ wn) :
    callF gc T wn (k + 2) 5 [w.d, .str s, .int p] = ok (.lst ((cps w s p).map cpD)) := by
  rw [call_has b_copies_of]
  have hr : rngD 1 (((min w.win p : Nat) : Int) + 1) = some ((List.range (min w.win p)).map fun i : Nat => D.int ((1 + i : Nat) : Int)) := rng_nat (a := 1) (b := min w.win p + 1) rfl (by omega) (by omega) (by have := hw.w2; omega)
  have step := for_pre (tg := .nm 4) (body := fun e h => exSs gc (callF gc T wn (k + 1)) wn s_copies_of_0 e h) (enc := fun i : Nat => D.int ((1 + i : Nat) : Int)) (ys := List.range (min w.win p))
    (R := fun (pre : List Nat) e h => ∃ x y, e = [vd w.d, vs s, vi p, some (.r 0), x, vs (lookS w.look), vi w.win, vi w.least, vi w.most, vi w.own, vs (tieS w.far), y] ∧ h = [.lst ((pre.filterMap (cp1 w s p)).map cpD)])
    ?_ (e := [vd w.d, vs s, vi p, some (.r 0), none, vs (lookS w.look), vi w.win, vi w.least, vi w.most, vi w.own, vs (tieS w.far), none]) (h := [.lst []]) ⟨none, none, rfl, rfl⟩
  · obtain ⟨e', h', q1, x, y, rfl, rfl⟩ := step
    simp only [vd, vs, vi, Way.d] at q1
    have hi := ev_rg2 (gc := gc) (cl := callF gc T wn (k + 1)) (e := [vd w.d, vs s, vi p, some (.r 0), none, vs (lookS w.look), vi w.win, vi w.least, vi w.most, vi w.own, vs (tieS w.far), none]) (h := [.lst []]) (a := (.cst (.int 1))) (b := (.bop .add (.blt .min (.cons (.var 6) (.cons (.var 2) .nil))) (.cst (.int 1)))) (by simp only [runF, exSs, exS, evE, evEs, evO, evT, evR, evRs, bnd, onE, onN, F.bind, op2, rdV, rdVs, lfD, lf, bopD, cmpD, bltD, truD, dats, dats0, isScal, anyR, asg, asgs, endD, sets, noEx, isOwn, add_ii, sub_ii, lt_ii, gt_ii, le_ii, isD, Option.map_some, Option.map_none, Option.bind_some, Option.bind_none, Option.map, Option.bind, List.getD_cons_zero, List.getD_cons_succ, List.set_cons_zero, List.set_cons_succ, List.length_cons, List.length_nil, List.map_cons, List.map_nil, List.cons_append, List.nil_append, List.replicate, Nat.reduceAdd, Nat.reduceSub, Nat.reduceLT, Nat.reduceLeDiff, Nat.reduceBEq, Nat.beq, Nat.ble, if_true, if_false, ite_true, ite_false, reduceIte, Bool.not_true, Bool.not_false, Bool.or_true, Bool.true_or, Bool.false_or, Bool.or_false, List.getElem?_cons_zero, List.getElem?_cons_succ]) (by simp only [runF, exSs, exS, evE, evEs, evO, evT, evR, evRs, bnd, onE, onN, F.bind, op2, rdV, rdVs, lfD, lf, bopD, cmpD, bltD, truD, dats, dats0, isScal, anyR, asg, asgs, endD, sets, noEx, isOwn, add_ii, sub_ii, lt_ii, gt_ii, le_ii, isD, Option.map_some, Option.map_none, Option.bind_some, Option.bind_none, Option.map, Option.bind, List.getD_cons_zero, List.getD_cons_succ, List.set_cons_zero, List.set_cons_succ, List.length_cons, List.length_nil, List.map_cons, List.map_nil, List.cons_append, List.nil_append, List.replicate, Nat.reduceAdd, Nat.reduceSub, Nat.reduceLT, Nat.reduceLeDiff, Nat.reduceBEq, Nat.beq, Nat.ble, if_true, if_false, ite_true, ite_false, reduceIte, Bool.not_true, Bool.not_false, Bool.or_true, Bool.true_or, Bool.false_or, Bool.or_false, List.getElem?_cons_zero, List.getElem?_cons_succ, min_two]) hr
    simp only [vd, vs, vi, Way.d] at hi
    simp only [runF, exSs, exS, evE, evEs, evO, evT, evR, evRs, bnd, onE, onN, F.bind, op2, rdV, rdVs, lfD, lf, bopD, cmpD, bltD, truD, dats, dats0, isScal, anyR, asg, asgs, endD, sets, noEx, isOwn, add_ii, sub_ii, lt_ii, gt_ii, le_ii, isD, Option.map_some, Option.map_none, Option.bind_some, Option.bind_none, Option.map, Option.bind, List.getD_cons_zero, List.getD_cons_succ, List.set_cons_zero, List.set_cons_succ, List.length_cons, List.length_nil, List.map_cons, List.map_nil, List.cons_append, List.nil_append, List.replicate, Nat.reduceAdd, Nat.reduceSub, Nat.reduceLT, Nat.reduceLeDiff, Nat.reduceBEq, Nat.beq, Nat.ble, if_true, if_false, ite_true, ite_false, reduceIte, Bool.not_true, Bool.not_false, Bool.or_true, Bool.true_or, Bool.false_or, Bool.or_false, List.getElem?_cons_zero, List.getElem?_cons_succ, b_copies_of, Way.d, hi, q1]
    rfl
  · rintro pre i post hp e h ⟨x, y, rfl, rfl⟩
    have hi : i < min w.win p := List.mem_range.mp (by rw [hp]; simp)
    have hpl : pre.length ≤ 4 := by
      have := congrArg List.length hp
      rw [List.length_range, List.length_append] at this
      have := hw.w2
      omega
    have hm2 := hw.m2
    have hc : cap w (1 + i) ≤ 4 := by unfold cap; split <;> omega
    have e1 := c_length_at (gc := gc) (T := T) (wn := wn) (k := k) hs hl (p := p) (b := 1 + i) (m := cap w (1 + i)) (by omega) (by omega)
    have hb0 : ((pre.filterMap (cp1 w s p)).map cpD).length ≤ 200 := by
      have h1 := List.length_filterMap_le (cp1 w s p) pre
      have h2 := List.length_map (as := pre.filterMap (cp1 w s p)) cpD
      omega
    have hb := blt_lim hb0
    have ho : eqD (.int w.own) (.int 1) = some (decide (w.own = 1)) := eq_nat w.own 1
    have hL : decide ((w.least : Int) ≤ (lenAt s p (1 + i) (cap w (1 + i)) : Int)) = decide (w.least ≤ lenAt s p (1 + i) (cap w (1 + i))) := decide_eq_decide.mpr (by omega)
    refine ⟨_, [vd w.d, vs s, vi p, some (.r 0), vi ((1 + i : Nat) : Int), vs (lookS w.look), vi w.win, vi w.least, vi w.most, vi w.own, vs (tieS w.far), vi (lenAt s p (1 + i) (cap w (1 + i)))], [.lst (((pre ++ [i]).filterMap (cp1 w s p)).map cpD)], rfl, ?_, _, _, rfl, rfl⟩
    rw [fm_snoc, cp1]
    by_cases h1 : w.own = 1
    · by_cases h2 : w.least ≤ lenAt s p (1 + i) (cap w (1 + i))
      · have hc1 : cap w (1 + i) = w.most := if_pos h1
        rw [decide_eq_true h1] at ho
        rw [decide_eq_true h2] at hL
        rw [if_pos h2]
        rw [hc1] at e1 hL ⊢
        simp only [runF, exSs, exS, evE, evEs, evO, evT, evR, evRs, bnd, onE, onN, F.bind, op2, rdV, rdVs, lfD, lf, bopD, cmpD, bltD, truD, dats, dats0, isScal, anyR, asg, asgs, endD, sets, noEx, isOwn, add_ii, sub_ii, lt_ii, gt_ii, le_ii, isD, Option.map_some, Option.map_none, Option.bind_some, Option.bind_none, Option.map, Option.bind, List.getD_cons_zero, List.getD_cons_succ, List.set_cons_zero, List.set_cons_succ, List.length_cons, List.length_nil, List.map_cons, List.map_nil, List.cons_append, List.nil_append, List.replicate, Nat.reduceAdd, Nat.reduceSub, Nat.reduceLT, Nat.reduceLeDiff, Nat.reduceBEq, Nat.beq, Nat.ble, if_true, if_false, ite_true, ite_false, reduceIte, Bool.not_true, Bool.not_false, Bool.or_true, Bool.true_or, Bool.false_or, Bool.or_false, List.getElem?_cons_zero, List.getElem?_cons_succ, s_copies_of_0, ho, hL, e1, min_two, hb, cpD, List.map_append, List.append_nil]
      · have hc1 : cap w (1 + i) = w.most := if_pos h1
        rw [decide_eq_true h1] at ho
        rw [decide_eq_false h2] at hL
        rw [if_neg h2]
        rw [hc1] at e1 hL ⊢
        simp only [runF, exSs, exS, evE, evEs, evO, evT, evR, evRs, bnd, onE, onN, F.bind, op2, rdV, rdVs, lfD, lf, bopD, cmpD, bltD, truD, dats, dats0, isScal, anyR, asg, asgs, endD, sets, noEx, isOwn, add_ii, sub_ii, lt_ii, gt_ii, le_ii, isD, Option.map_some, Option.map_none, Option.bind_some, Option.bind_none, Option.map, Option.bind, List.getD_cons_zero, List.getD_cons_succ, List.set_cons_zero, List.set_cons_succ, List.length_cons, List.length_nil, List.map_cons, List.map_nil, List.cons_append, List.nil_append, List.replicate, Nat.reduceAdd, Nat.reduceSub, Nat.reduceLT, Nat.reduceLeDiff, Nat.reduceBEq, Nat.beq, Nat.ble, if_true, if_false, ite_true, ite_false, reduceIte, Bool.not_true, Bool.not_false, Bool.or_true, Bool.true_or, Bool.false_or, Bool.or_false, List.getElem?_cons_zero, List.getElem?_cons_succ, s_copies_of_0, ho, hL, e1, min_two, hb, cpD, List.map_append, List.append_nil]
    · by_cases h2 : w.least ≤ lenAt s p (1 + i) (cap w (1 + i))
      · have hc1 : cap w (1 + i) = min w.most (1 + i) := if_neg h1
        rw [decide_eq_false h1] at ho
        rw [decide_eq_true h2] at hL
        rw [if_pos h2]
        rw [hc1] at e1 hL ⊢
        simp only [runF, exSs, exS, evE, evEs, evO, evT, evR, evRs, bnd, onE, onN, F.bind, op2, rdV, rdVs, lfD, lf, bopD, cmpD, bltD, truD, dats, dats0, isScal, anyR, asg, asgs, endD, sets, noEx, isOwn, add_ii, sub_ii, lt_ii, gt_ii, le_ii, isD, Option.map_some, Option.map_none, Option.bind_some, Option.bind_none, Option.map, Option.bind, List.getD_cons_zero, List.getD_cons_succ, List.set_cons_zero, List.set_cons_succ, List.length_cons, List.length_nil, List.map_cons, List.map_nil, List.cons_append, List.nil_append, List.replicate, Nat.reduceAdd, Nat.reduceSub, Nat.reduceLT, Nat.reduceLeDiff, Nat.reduceBEq, Nat.beq, Nat.ble, if_true, if_false, ite_true, ite_false, reduceIte, Bool.not_true, Bool.not_false, Bool.or_true, Bool.true_or, Bool.false_or, Bool.or_false, List.getElem?_cons_zero, List.getElem?_cons_succ, s_copies_of_0, ho, hL, e1, min_two, hb, cpD, List.map_append, List.append_nil]
      · have hc1 : cap w (1 + i) = min w.most (1 + i) := if_neg h1
        rw [decide_eq_false h1] at ho
        rw [decide_eq_false h2] at hL
        rw [if_neg h2]
        rw [hc1] at e1 hL ⊢
        simp only [runF, exSs, exS, evE, evEs, evO, evT, evR, evRs, bnd, onE, onN, F.bind, op2, rdV, rdVs, lfD, lf, bopD, cmpD, bltD, truD, dats, dats0, isScal, anyR, asg, asgs, endD, sets, noEx, isOwn, add_ii, sub_ii, lt_ii, gt_ii, le_ii, isD, Option.map_some, Option.map_none, Option.bind_some, Option.bind_none, Option.map, Option.bind, List.getD_cons_zero, List.getD_cons_succ, List.set_cons_zero, List.set_cons_succ, List.length_cons, List.length_nil, List.map_cons, List.map_nil, List.cons_append, List.nil_append, List.replicate, Nat.reduceAdd, Nat.reduceSub, Nat.reduceLT, Nat.reduceLeDiff, Nat.reduceBEq, Nat.beq, Nat.ble, if_true, if_false, ite_true, ite_false, reduceIte, Bool.not_true, Bool.not_false, Bool.or_true, Bool.true_or, Bool.false_or, Bool.or_false, List.getElem?_cons_zero, List.getElem?_cons_succ, s_copies_of_0, ho, hL, e1, min_two, hb, cpD, List.map_append, List.append_nil]
/-! ### best_of, cover_of -/
theorem at2_0 (a b : D) : atD [a, b] 0 = some a := rfl
theorem at2_1 (a b : D) : atD [a, b] 1 = some b := rfl
theorem at6_0 (a b c d e f : D) : atD [a, b, c, d, e, f] 0 = some a := rfl
theorem at6_2 (a b c d e f : D) : atD [a, b, c, d, e, f] 2 = some c := rfl
theorem at6_5 (a b c d e f : D) : atD [a, b, c, d, e, f] 5 = some f := rfl
theorem shps_map {α : Type} {f : α → D} {n : Nat} (h : ∀ a, D.shp n (f a) = true) : ∀ l : List α, D.shps n (l.map f) = true
  | [] => by cases n <;> rfl
  | x :: l => by
    rw [List.map_cons, D.shps, h x, shps_map h l]
    rfl
theorem shp_cp (n : Nat) (c : Nat × Nat) : D.shp (n + 1) (cpD c) = true := by cases n <;> rfl
theorem eq_nil {xs : List D} (h : D.shps 59 xs = true) : eqD (.lst xs) (.lst []) = some xs.isEmpty := by
  have h1 : (D.shp 60 (.lst xs) && D.shp 60 (.lst [])) = true := by
    show (D.shps 59 xs && D.shps 59 []) = true
    rw [h]
    rfl
  unfold eqD
  rw [if_pos h1]
  cases xs <;> rfl
theorem eq_near (far : Bool) : eqD (.str (tieS far)) (.str [110, 101, 97, 114]) = some (!far) := by cases far <;> rfl
theorem eq_far (far : Bool) : eqD (.str (tieS far)) (.str [102, 97, 114]) = some far := by cases far <;> rfl
theorem eq_fewest (l : Look) : eqD (.str (lookS l)) (.str [102, 101, 119, 101, 115, 116]) = some (decide (l = .fewest)) := by cases l <;> rfl
theorem eq_now (l : Look) : eqD (.str (lookS l)) (.str [110, 111, 119]) = some (decide (l = .now)) := by cases l <;> rfl
theorem eq_next (l : Look) : eqD (.str (lookS l)) (.str [110, 101, 120, 116]) = some (decide (l = .next)) := by cases l <;> rfl
theorem at_head {α : Type} (xs : List α) : atD xs 0 = xs.head? := by
  cases xs with
  | nil => rfl
  | cons x xs => exact at_nat (n := 0) rfl (by simp)
theorem at_last {α : Type} {xs : List α} (h : xs ≠ []) : atD xs (-1) = xs.getLast? := by
  have hl : 0 < xs.length := List.length_pos_iff.mpr h
  unfold atD ixD
  rw [if_neg (by omega), if_pos (by omega)]
  show xs[((-1 : Int) + (xs.length : Int)).toNat]? = _
  rw [show ((-1 : Int) + (xs.length : Int)).toNat = xs.length - 1 by omega, List.getLast?_eq_getElem?]
theorem le_foldl_max : ∀ (l : List Nat) (x : Nat), x ≤ l.foldl max x ∧ ∀ y ∈ l, y ≤ l.foldl max x
  | [], x => ⟨Nat.le_refl _, fun y hy => by cases hy⟩
  | z :: l, x => by
    obtain ⟨h1, h2⟩ := le_foldl_max l (max x z)
    rw [List.foldl_cons]
    refine ⟨by omega, fun y hy => ?_⟩
    rcases List.mem_cons.mp hy with rfl | hy
    · omega
    · exact h2 y hy
theorem foldl_max_mem : ∀ (l : List Nat) (x : Nat), l.foldl max x = x ∨ l.foldl max x ∈ l
  | [], x => .inl rfl
  | z :: l, x => by
    rw [List.foldl_cons]
    rcases foldl_max_mem l (max x z) with h | h
    · rcases Nat.le_total x z with q | q
      · exact .inr (by rw [h, Nat.max_eq_right q]; exact List.mem_cons_self)
      · exact .inl (by rw [h, Nat.max_eq_left q])
    · exact .inr (List.mem_cons_of_mem _ h)
theorem maxN_mem {l : List Nat} (h : l ≠ []) : maxN l ∈ l := by
  cases l with
  | nil => exact absurd rfl h
  | cons x l =>
    unfold maxN
    rw [List.foldl_cons, Nat.zero_max]
    rcases foldl_max_mem l x with q | q
    · rw [q]; exact List.mem_cons_self
    · exact List.mem_cons_of_mem _ q
theorem le_maxN {l : List Nat} {y : Nat} (h : y ∈ l) : y ≤ maxN l := (le_foldl_max l 0).2 y h
/-- the copies of the greatest length -/
def tops (l : List (Nat × Nat)) : List (Nat × Nat) := l.filter fun c => decide (c.2 = maxN (l.map (·.2)))
theorem tops_ne {l : List (Nat × Nat)} (h : l ≠ []) : tops l ≠ [] := by
  obtain ⟨c, hc, e⟩ := List.mem_map.mp (maxN_mem (l := l.map (·.2)) (by simpa using h))
  exact List.ne_nil_of_mem (List.mem_filter.mpr ⟨hc, decide_eq_true e⟩)
def bestOf (w : Way) (s : List Nat) (p : Nat) : Option (Nat × Nat) := if w.far then (tops (cps w s p)).getLast? else (tops (cps w s p)).head?
def bestD : Option (Nat × Nat) → D
  | none => .non
  | some c => cpD c
theorem c_best_of [Has T 4 b_length_at] [Has T 5 b_copies_of] [Has T 6 b_best_of] {w : Way} (hw : w.Ok) {s : List Nat} (hs : AB s) (hl : s.length ≤ 1000) (p : Nat) (hp : p ≤ 1000) (hn : 10 ≤ wn) :
    callF gc T wn (k + 3) 6 [w.d, .str s, .int p] = ok (bestD (bestOf w s p)) := by
  rw [call_has b_best_of]
  have e1 := c_copies_of (gc := gc) (T := T) (wn := wn) (k := k) hw hs hl p hp hn
  have e2 := eq_nil (shps_map (shp_cp 58) (cps w s p))
  unfold bestOf
  by_cases hne : cps w s p = []
  · rw [hne] at e1 e2
    simp only [List.map_nil, List.isEmpty_nil] at e1 e2
    rw [hne]
    simp only [runF, exSs, exS, evE, evEs, evO, evT, evR, evRs, bnd, onE, onN, F.bind, op2, rdV, rdVs, lfD, lf, bopD, cmpD, bltD, truD, dats, dats0, isScal, anyR, asg, asgs, endD, sets, noEx, isOwn, add_ii, sub_ii, lt_ii, gt_ii, le_ii, isD, Option.map_some, Option.map_none, Option.bind_some, Option.bind_none, Option.map, Option.bind, List.getD_cons_zero, List.getD_cons_succ, List.set_cons_zero, List.set_cons_succ, List.length_cons, List.length_nil, List.map_cons, List.map_nil, List.cons_append, List.nil_append, List.replicate, Nat.reduceAdd, Nat.reduceSub, Nat.reduceLT, Nat.reduceLeDiff, Nat.reduceBEq, Nat.beq, Nat.ble, if_true, if_false, ite_true, ite_false, reduceIte, Bool.not_true, Bool.not_false, Bool.or_true, Bool.true_or, Bool.false_or, Bool.or_false, List.getElem?_cons_zero, List.getElem?_cons_succ, b_best_of, e1, e2]
    cases w.far <;> rfl
  · have e3 : ((cps w s p).map cpD).isEmpty = false := by simpa using hne
    rw [e3] at e2
    have hlen : (cps w s p).length ≤ 200 := by
      have h1 := List.length_filterMap_le (cp1 w s p) (List.range (min w.win p))
      have h2 := List.length_range (n := min w.win p)
      have h3 := hw.w2
      have h4 : (cps w s p).length = ((List.range (min w.win p)).filterMap (cp1 w s p)).length := rfl
      omega
    have c1 : evE gc (callF gc T wn (k + 2)) c_best_of_4 [vd w.d, vs s, vi p, vd (.lst ((cps w s p).map cpD)), none, none, none, none, none] [] = ok (.d (.lst ((cps w s p).map fun c => D.int c.2))) :=
      ev_cmp1 (enc := cpD) (fun c => D.int c.2) (ev_seq (d := .lst ((cps w s p).map cpD)) (by simp only [runF, exSs, exS, evE, evEs, evO, evT, evR, evRs, bnd, onE, onN, F.bind, op2, rdV, rdVs, lfD, lf, bopD, cmpD, bltD, truD, dats, dats0, isScal, anyR, asg, asgs, endD, sets, noEx, isOwn, add_ii, sub_ii, lt_ii, gt_ii, le_ii, isD, Option.map_some, Option.map_none, Option.bind_some, Option.bind_none, Option.map, Option.bind, List.getD_cons_zero, List.getD_cons_succ, List.set_cons_zero, List.set_cons_succ, List.length_cons, List.length_nil, List.map_cons, List.map_nil, List.cons_append, List.nil_append, List.replicate, Nat.reduceAdd, Nat.reduceSub, Nat.reduceLT, Nat.reduceLeDiff, Nat.reduceBEq, Nat.beq, Nat.ble, if_true, if_false, ite_true, ite_false, reduceIte, Bool.not_true, Bool.not_false, Bool.or_true, Bool.true_or, Bool.false_or, Bool.or_false, List.getElem?_cons_zero, List.getElem?_cons_succ]) rfl) (by omega) fun c _ => ⟨_, rfl, by simp only [runF, exSs, exS, evE, evEs, evO, evT, evR, evRs, bnd, onE, onN, F.bind, op2, rdV, rdVs, lfD, lf, bopD, cmpD, bltD, truD, dats, dats0, isScal, anyR, asg, asgs, endD, sets, noEx, isOwn, add_ii, sub_ii, lt_ii, gt_ii, le_ii, isD, Option.map_some, Option.map_none, Option.bind_some, Option.bind_none, Option.map, Option.bind, List.getD_cons_zero, List.getD_cons_succ, List.set_cons_zero, List.set_cons_succ, List.length_cons, List.length_nil, List.map_cons, List.map_nil, List.cons_append, List.nil_append, List.replicate, Nat.reduceAdd, Nat.reduceSub, Nat.reduceLT, Nat.reduceLeDiff, Nat.reduceBEq, Nat.beq, Nat.ble, if_true, if_false, ite_true, ite_false, reduceIte, Bool.not_true, Bool.not_false, Bool.or_true, Bool.true_or, Bool.false_or, Bool.or_false, List.getElem?_cons_zero, List.getElem?_cons_succ, e_best_of_3, wip]⟩
    have c2 : maxD [.lst ((cps w s p).map fun c => D.int c.2)] = some (.int (maxN ((cps w s p).map (·.2)))) := by
      have := max_list (l := (cps w s p).map (·.2)) (by simpa using hne)
      rw [List.map_map] at this
      exact this
    have c3 : evE gc (callF gc T wn (k + 2)) c_best_of_2 [vd w.d, vs s, vi p, vd (.lst ((cps w s p).map cpD)), vi (maxN ((cps w s p).map (·.2))), none, none, none, none] [] = ok (.d (.lst ((tops (cps w s p)).map cpD))) :=
      ev_cmpc (enc := cpD) (fun c => decide (c.2 = maxN ((cps w s p).map (·.2)))) cpD (ev_seq (d := .lst ((cps w s p).map cpD)) (by simp only [runF, exSs, exS, evE, evEs, evO, evT, evR, evRs, bnd, onE, onN, F.bind, op2, rdV, rdVs, lfD, lf, bopD, cmpD, bltD, truD, dats, dats0, isScal, anyR, asg, asgs, endD, sets, noEx, isOwn, add_ii, sub_ii, lt_ii, gt_ii, le_ii, isD, Option.map_some, Option.map_none, Option.bind_some, Option.bind_none, Option.map, Option.bind, List.getD_cons_zero, List.getD_cons_succ, List.set_cons_zero, List.set_cons_succ, List.length_cons, List.length_nil, List.map_cons, List.map_nil, List.cons_append, List.nil_append, List.replicate, Nat.reduceAdd, Nat.reduceSub, Nat.reduceLT, Nat.reduceLeDiff, Nat.reduceBEq, Nat.beq, Nat.ble, if_true, if_false, ite_true, ite_false, reduceIte, Bool.not_true, Bool.not_false, Bool.or_true, Bool.true_or, Bool.false_or, Bool.or_false, List.getElem?_cons_zero, List.getElem?_cons_succ]) rfl) (by omega) fun c _ => ⟨_, rfl, by simp only [runF, exSs, exS, evE, evEs, evO, evT, evR, evRs, bnd, onE, onN, F.bind, op2, rdV, rdVs, lfD, lf, bopD, cmpD, bltD, truD, dats, dats0, isScal, anyR, asg, asgs, endD, sets, noEx, isOwn, add_ii, sub_ii, lt_ii, gt_ii, le_ii, isD, Option.map_some, Option.map_none, Option.bind_some, Option.bind_none, Option.map, Option.bind, List.getD_cons_zero, List.getD_cons_succ, List.set_cons_zero, List.set_cons_succ, List.length_cons, List.length_nil, List.map_cons, List.map_nil, List.cons_append, List.nil_append, List.replicate, Nat.reduceAdd, Nat.reduceSub, Nat.reduceLT, Nat.reduceLeDiff, Nat.reduceBEq, Nat.beq, Nat.ble, if_true, if_false, ite_true, ite_false, reduceIte, Bool.not_true, Bool.not_false, Bool.or_true, Bool.true_or, Bool.false_or, Bool.or_false, List.getElem?_cons_zero, List.getElem?_cons_succ, t_best_of_1, wip, cpD, subD, at2_1, eq_nat], fun _ => by simp only [runF, exSs, exS, evE, evEs, evO, evT, evR, evRs, bnd, onE, onN, F.bind, op2, rdV, rdVs, lfD, lf, bopD, cmpD, bltD, truD, dats, dats0, isScal, anyR, asg, asgs, endD, sets, noEx, isOwn, add_ii, sub_ii, lt_ii, gt_ii, le_ii, isD, Option.map_some, Option.map_none, Option.bind_some, Option.bind_none, Option.map, Option.bind, List.getD_cons_zero, List.getD_cons_succ, List.set_cons_zero, List.set_cons_succ, List.length_cons, List.length_nil, List.map_cons, List.map_nil, List.cons_append, List.nil_append, List.replicate, Nat.reduceAdd, Nat.reduceSub, Nat.reduceLT, Nat.reduceLeDiff, Nat.reduceBEq, Nat.beq, Nat.ble, if_true, if_false, ite_true, ite_false, reduceIte, Bool.not_true, Bool.not_false, Bool.or_true, Bool.true_or, Bool.false_or, Bool.or_false, List.getElem?_cons_zero, List.getElem?_cons_succ, e_best_of_0, wip]⟩
    simp only [vd, vs, vi] at c1 c3
    have ht := tops_ne hne
    have ht' : (tops (cps w s p)).map cpD ≠ [] := by simpa using ht
    cases hf : w.far with
    | true =>
      have e4 := at_last ht'
      rw [List.getLast?_map] at e4
      obtain ⟨c, hc⟩ := Option.isSome_iff_exists.mp (List.getLast?_isSome.mpr ht)
      rw [hc] at e4
      have e5 := eq_near w.far
      simp only [runF, exSs, exS, evE, evEs, evO, evT, evR, evRs, bnd, onE, onN, F.bind, op2, rdV, rdVs, lfD, lf, bopD, cmpD, bltD, truD, dats, dats0, isScal, anyR, asg, asgs, endD, sets, noEx, isOwn, add_ii, sub_ii, lt_ii, gt_ii, le_ii, isD, Option.map_some, Option.map_none, Option.bind_some, Option.bind_none, Option.map, Option.bind, List.getD_cons_zero, List.getD_cons_succ, List.set_cons_zero, List.set_cons_succ, List.length_cons, List.length_nil, List.map_cons, List.map_nil, List.cons_append, List.nil_append, List.replicate, Nat.reduceAdd, Nat.reduceSub, Nat.reduceLT, Nat.reduceLeDiff, Nat.reduceBEq, Nat.beq, Nat.ble, if_true, if_false, ite_true, ite_false, reduceIte, Bool.not_true, Bool.not_false, Bool.or_true, Bool.true_or, Bool.false_or, Bool.or_false, List.getElem?_cons_zero, List.getElem?_cons_succ, b_best_of, e1, e2, c1, c2, c3]
      simp only [runF, exSs, exS, evE, evEs, evO, evT, evR, evRs, bnd, onE, onN, F.bind, op2, rdV, rdVs, lfD, lf, bopD, cmpD, bltD, truD, dats, dats0, isScal, anyR, asg, asgs, endD, sets, noEx, isOwn, add_ii, sub_ii, lt_ii, gt_ii, le_ii, isD, Option.map_some, Option.map_none, Option.bind_some, Option.bind_none, Option.map, Option.bind, List.getD_cons_zero, List.getD_cons_succ, List.set_cons_zero, List.set_cons_succ, List.length_cons, List.length_nil, List.map_cons, List.map_nil, List.cons_append, List.nil_append, List.replicate, Nat.reduceAdd, Nat.reduceSub, Nat.reduceLT, Nat.reduceLeDiff, Nat.reduceBEq, Nat.beq, Nat.ble, if_true, if_false, ite_true, ite_false, reduceIte, Bool.not_true, Bool.not_false, Bool.or_true, Bool.true_or, Bool.false_or, Bool.or_false, List.getElem?_cons_zero, List.getElem?_cons_succ, Way.d, subD, at6_5, eq_near, hf, e4, hc, bestD, Option.map]
    | false =>
      have e4 := at_head ((tops (cps w s p)).map cpD)
      rw [List.head?_map] at e4
      obtain ⟨c, hc⟩ := Option.isSome_iff_exists.mp (List.isSome_head?.mpr ht)
      rw [hc] at e4
      have e5 := eq_near w.far
      simp only [runF, exSs, exS, evE, evEs, evO, evT, evR, evRs, bnd, onE, onN, F.bind, op2, rdV, rdVs, lfD, lf, bopD, cmpD, bltD, truD, dats, dats0, isScal, anyR, asg, asgs, endD, sets, noEx, isOwn, add_ii, sub_ii, lt_ii, gt_ii, le_ii, isD, Option.map_some, Option.map_none, Option.bind_some, Option.bind_none, Option.map, Option.bind, List.getD_cons_zero, List.getD_cons_succ, List.set_cons_zero, List.set_cons_succ, List.length_cons, List.length_nil, List.map_cons, List.map_nil, List.cons_append, List.nil_append, List.replicate, Nat.reduceAdd, Nat.reduceSub, Nat.reduceLT, Nat.reduceLeDiff, Nat.reduceBEq, Nat.beq, Nat.ble, if_true, if_false, ite_true, ite_false, reduceIte, Bool.not_true, Bool.not_false, Bool.or_true, Bool.true_or, Bool.false_or, Bool.or_false, List.getElem?_cons_zero, List.getElem?_cons_succ, b_best_of, e1, e2, c1, c2, c3]
      simp only [runF, exSs, exS, evE, evEs, evO, evT, evR, evRs, bnd, onE, onN, F.bind, op2, rdV, rdVs, lfD, lf, bopD, cmpD, bltD, truD, dats, dats0, isScal, anyR, asg, asgs, endD, sets, noEx, isOwn, add_ii, sub_ii, lt_ii, gt_ii, le_ii, isD, Option.map_some, Option.map_none, Option.bind_some, Option.bind_none, Option.map, Option.bind, List.getD_cons_zero, List.getD_cons_succ, List.set_cons_zero, List.set_cons_succ, List.length_cons, List.length_nil, List.map_cons, List.map_nil, List.cons_append, List.nil_append, List.replicate, Nat.reduceAdd, Nat.reduceSub, Nat.reduceLT, Nat.reduceLeDiff, Nat.reduceBEq, Nat.beq, Nat.ble, if_true, if_false, ite_true, ite_false, reduceIte, Bool.not_true, Bool.not_false, Bool.or_true, Bool.true_or, Bool.false_or, Bool.or_false, List.getElem?_cons_zero, List.getElem?_cons_succ, Way.d, subD, at6_5, eq_near, hf, e4, hc, bestD, Option.map]
      rfl

end
end Bk
/-! BkR: tokens, evaluated. -/
namespace Bk
section
variable {gc : Gc} {T : Tab} {wn k : Nat}
theorem s2_0 (a b : D) : subD (.tup [a, b]) (.int 0) = some a := rfl
theorem s2_1 (a b : D) : subD (.tup [a, b]) (.int 1) = some b := rfl
theorem sc_0 (c : Nat × Nat) : subD (cpD c) (.int 0) = some (.int c.1) := rfl
theorem sc_1 (c : Nat × Nat) : subD (cpD c) (.int 1) = some (.int c.2) := rfl
theorem sw_0 (w : Way) : subD w.d (.int 0) = some (.str (lookS w.look)) := rfl
theorem sw_2 (w : Way) : subD w.d (.int 2) = some (.int w.least) := rfl
theorem sw_5 (w : Way) : subD w.d (.int 5) = some (.str (tieS w.far)) := rfl
/-- how far is covered at a place -/
def cover (w : Way) (s : List Nat) (p : Nat) : Nat := match bestOf w s p with
  | some c => c.2
  | none => if p < s.length then 1 else 0
theorem c_cover_of [Has T 4 b_length_at] [Has T 5 b_copies_of] [Has T 6 b_best_of] [Has T 10 b_cover_of] {w : Way} (hw : w.Ok) {s : List Nat} (hs : AB s) (hl : s.length ≤ 1000) (p : Nat) (hp : p ≤ 1000) (hn : 10 ≤ wn) :
    callF gc T wn (k + 4) 10 [w.d, .str s, .int p] = ok (.int (cover w s p)) := by
  rw [call_has b_cover_of]
  have e1 := c_best_of (gc := gc) (T := T) (wn := wn) (k := k) hw hs hl p hp hn
  unfold cover
  cases hb : bestOf w s p with
  | some c =>
    rw [hb] at e1
    simp only [bestD, cpD] at e1
    simp only [runF, exSs, exS, evE, evEs, evO, evT, evR, evRs, bnd, onE, onN, F.bind, op2, rdV, rdVs, lfD, lf, bopD, cmpD, bltD, truD, dats, dats0, isScal, anyR, asg, asgs, endD, sets, noEx, isOwn, add_ii, sub_ii, lt_ii, gt_ii, le_ii, isD, Option.map_some, Option.map_none, Option.bind_some, Option.bind_none, Option.map, Option.bind, List.getD_cons_zero, List.getD_cons_succ, List.set_cons_zero, List.set_cons_succ, List.length_cons, List.length_nil, List.map_cons, List.map_nil, List.cons_append, List.nil_append, List.replicate, Nat.reduceAdd, Nat.reduceSub, Nat.reduceLT, Nat.reduceLeDiff, Nat.reduceBEq, Nat.beq, Nat.ble, if_true, if_false, ite_true, ite_false, reduceIte, Bool.not_true, Bool.not_false, Bool.or_true, Bool.true_or, Bool.false_or, Bool.or_false, List.getElem?_cons_zero, List.getElem?_cons_succ, b_cover_of, e1, s2_1]
  | none =>
    rw [hb] at e1
    simp only [bestD] at e1
    by_cases h1 : p < s.length
    · have h2 : decide ((p : Int) < (s.length : Int)) = true := decide_eq_true (by omega)
      simp only [runF, exSs, exS, evE, evEs, evO, evT, evR, evRs, bnd, onE, onN, F.bind, op2, rdV, rdVs, lfD, lf, bopD, cmpD, bltD, truD, dats, dats0, isScal, anyR, asg, asgs, endD, sets, noEx, isOwn, add_ii, sub_ii, lt_ii, gt_ii, le_ii, isD, Option.map_some, Option.map_none, Option.bind_some, Option.bind_none, Option.map, Option.bind, List.getD_cons_zero, List.getD_cons_succ, List.set_cons_zero, List.set_cons_succ, List.length_cons, List.length_nil, List.map_cons, List.map_nil, List.cons_append, List.nil_append, List.replicate, Nat.reduceAdd, Nat.reduceSub, Nat.reduceLT, Nat.reduceLeDiff, Nat.reduceBEq, Nat.beq, Nat.ble, if_true, if_false, ite_true, ite_false, reduceIte, Bool.not_true, Bool.not_false, Bool.or_true, Bool.true_or, Bool.false_or, Bool.or_false, List.getElem?_cons_zero, List.getElem?_cons_succ, b_cover_of, e1, len_str hl, h2, if_pos h1]
      rfl
    · have h2 : decide ((p : Int) < (s.length : Int)) = false := decide_eq_false (by omega)
      simp only [runF, exSs, exS, evE, evEs, evO, evT, evR, evRs, bnd, onE, onN, F.bind, op2, rdV, rdVs, lfD, lf, bopD, cmpD, bltD, truD, dats, dats0, isScal, anyR, asg, asgs, endD, sets, noEx, isOwn, add_ii, sub_ii, lt_ii, gt_ii, le_ii, isD, Option.map_some, Option.map_none, Option.bind_some, Option.bind_none, Option.map, Option.bind, List.getD_cons_zero, List.getD_cons_succ, List.set_cons_zero, List.set_cons_succ, List.length_cons, List.length_nil, List.map_cons, List.map_nil, List.cons_append, List.nil_append, List.replicate, Nat.reduceAdd, Nat.reduceSub, Nat.reduceLT, Nat.reduceLeDiff, Nat.reduceBEq, Nat.beq, Nat.ble, if_true, if_false, ite_true, ite_false, reduceIte, Bool.not_true, Bool.not_false, Bool.or_true, Bool.true_or, Bool.false_or, Bool.or_false, List.getElem?_cons_zero, List.getElem?_cons_succ, b_cover_of, e1, len_str hl, h2, if_neg h1]
      rfl
inductive Tok where
  | lit (c : Nat)
  | cpy (b n : Nat)
deriving DecidableEq
def Tok.d : Tok → D
  | .lit c => .tup [.int 0, .str [c]]
  | .cpy b n => .tup [.int b, .int n]
def Tok.size : Tok → Nat
  | .lit _ => 1
  | .cpy _ n => n
def Tok.Ok : Tok → Prop
  | .lit _ => True
  | .cpy b n => 1 ≤ b ∧ b ≤ 4 ∧ 2 ≤ n ∧ n ≤ 4
theorem c_size_of [Has T 12 b_size_of] (t : Tok) (ht : t.Ok) : callF gc T wn (k + 1) 12 [t.d] = ok (.int t.size) := by
  rw [call_has b_size_of]
  cases t with
  | lit c =>
    have e : eqD (.int 0) (.int 0) = some true := rfl
    simp only [runF, exSs, exS, evE, evEs, evO, evT, evR, evRs, bnd, onE, onN, F.bind, op2, rdV, rdVs, lfD, lf, bopD, cmpD, bltD, truD, dats, dats0, isScal, anyR, asg, asgs, endD, sets, noEx, isOwn, add_ii, sub_ii, lt_ii, gt_ii, le_ii, isD, Option.map_some, Option.map_none, Option.bind_some, Option.bind_none, Option.map, Option.bind, List.getD_cons_zero, List.getD_cons_succ, List.set_cons_zero, List.set_cons_succ, List.length_cons, List.length_nil, List.map_cons, List.map_nil, List.cons_append, List.nil_append, List.replicate, Nat.reduceAdd, Nat.reduceSub, Nat.reduceLT, Nat.reduceLeDiff, Nat.reduceBEq, Nat.beq, Nat.ble, if_true, if_false, ite_true, ite_false, reduceIte, Bool.not_true, Bool.not_false, Bool.or_true, Bool.true_or, Bool.false_or, Bool.or_false, List.getElem?_cons_zero, List.getElem?_cons_succ, b_size_of, Tok.d, s2_0, e, Tok.size]
    rfl
  | cpy b n =>
    have e : eqD (.int (b : Int)) (.int 0) = some false := by
      rw [show (.int 0 : D) = .int ((0 : Nat) : Int) from rfl, eq_nat, decide_eq_false]
      have : 1 ≤ b := ht.1
      omega
    simp only [runF, exSs, exS, evE, evEs, evO, evT, evR, evRs, bnd, onE, onN, F.bind, op2, rdV, rdVs, lfD, lf, bopD, cmpD, bltD, truD, dats, dats0, isScal, anyR, asg, asgs, endD, sets, noEx, isOwn, add_ii, sub_ii, lt_ii, gt_ii, le_ii, isD, Option.map_some, Option.map_none, Option.bind_some, Option.bind_none, Option.map, Option.bind, List.getD_cons_zero, List.getD_cons_succ, List.set_cons_zero, List.set_cons_succ, List.length_cons, List.length_nil, List.map_cons, List.map_nil, List.cons_append, List.nil_append, List.replicate, Nat.reduceAdd, Nat.reduceSub, Nat.reduceLT, Nat.reduceLeDiff, Nat.reduceBEq, Nat.beq, Nat.ble, if_true, if_false, ite_true, ite_false, reduceIte, Bool.not_true, Bool.not_false, Bool.or_true, Bool.true_or, Bool.false_or, Bool.or_false, List.getElem?_cons_zero, List.getElem?_cons_succ, b_size_of, Tok.d, s2_0, s2_1, e, Tok.size]
/-- a copy is left out -/
def leaves (w : Way) (s : List Nat) (p n : Nat) : Bool := match w.look with
  | .now => false
  | .next => decide (n < cover w s (p + 1))
  | _ => decide (n + cover w s (p + n) < 1 + cover w s (p + 1))
theorem c_leaves_out [Has T 4 b_length_at] [Has T 5 b_copies_of] [Has T 6 b_best_of] [Has T 10 b_cover_of] [Has T 11 b_leaves_out] {w : Way} (hw : w.Ok) {s : List Nat} (hs : AB s) (hl : s.length ≤ 900) (p : Nat) (hp : p ≤ 900) (c : Nat × Nat) (hc : c.2 ≤ 10) (hn : 10 ≤ wn) :
    callF gc T wn (k + 5) 11 [w.d, .str s, .int p, cpD c] = ok (.bl (leaves w s p c.2)) := by
  rw [call_has b_leaves_out]
  have e1 := c_cover_of (gc := gc) (T := T) (wn := wn) (k := k) hw hs (by omega) (p + 1) (by omega) hn
  have e2 := c_cover_of (gc := gc) (T := T) (wn := wn) (k := k) hw hs (by omega) (p + c.2) (by omega) hn
  simp only [Int.natCast_add, Int.cast_ofNat_Int] at e1 e2
  have e3 := sw_0 w
  have e4 := eq_now w.look
  have e5 := eq_next w.look
  unfold leaves
  cases hlk : w.look with
  | now =>
    rw [hlk] at e3 e4
    simp only [runF, exSs, exS, evE, evEs, evO, evT, evR, evRs, bnd, onE, onN, F.bind, op2, rdV, rdVs, lfD, lf, bopD, cmpD, bltD, truD, dats, dats0, isScal, anyR, asg, asgs, endD, sets, noEx, isOwn, add_ii, sub_ii, lt_ii, gt_ii, le_ii, isD, Option.map_some, Option.map_none, Option.bind_some, Option.bind_none, Option.map, Option.bind, List.getD_cons_zero, List.getD_cons_succ, List.set_cons_zero, List.set_cons_succ, List.length_cons, List.length_nil, List.map_cons, List.map_nil, List.cons_append, List.nil_append, List.replicate, Nat.reduceAdd, Nat.reduceSub, Nat.reduceLT, Nat.reduceLeDiff, Nat.reduceBEq, Nat.beq, Nat.ble, if_true, if_false, ite_true, ite_false, reduceIte, Bool.not_true, Bool.not_false, Bool.or_true, Bool.true_or, Bool.false_or, Bool.or_false, List.getElem?_cons_zero, List.getElem?_cons_succ, b_leaves_out, e3, e4, decide_true]
  | next =>
    rw [hlk] at e3 e4 e5
    have h1 : decide ((c.2 : Int) < (cover w s (p + 1) : Int)) = decide (c.2 < cover w s (p + 1)) := decide_eq_decide.mpr (by omega)
    simp only [runF, exSs, exS, evE, evEs, evO, evT, evR, evRs, bnd, onE, onN, F.bind, op2, rdV, rdVs, lfD, lf, bopD, cmpD, bltD, truD, dats, dats0, isScal, anyR, asg, asgs, endD, sets, noEx, isOwn, add_ii, sub_ii, lt_ii, gt_ii, le_ii, isD, Option.map_some, Option.map_none, Option.bind_some, Option.bind_none, Option.map, Option.bind, List.getD_cons_zero, List.getD_cons_succ, List.set_cons_zero, List.set_cons_succ, List.length_cons, List.length_nil, List.map_cons, List.map_nil, List.cons_append, List.nil_append, List.replicate, Nat.reduceAdd, Nat.reduceSub, Nat.reduceLT, Nat.reduceLeDiff, Nat.reduceBEq, Nat.beq, Nat.ble, if_true, if_false, ite_true, ite_false, reduceIte, Bool.not_true, Bool.not_false, Bool.or_true, Bool.true_or, Bool.false_or, Bool.or_false, List.getElem?_cons_zero, List.getElem?_cons_succ, b_leaves_out, e3, e4, e5, e1, sc_1, decide_true, h1, reduceCtorEq, decide_false]
  | two =>
    rw [hlk] at e3 e4 e5
    have h1 : decide ((c.2 : Int) + (cover w s (p + c.2) : Int) < 1 + (cover w s (p + 1) : Int)) = decide (c.2 + cover w s (p + c.2) < 1 + cover w s (p + 1)) := decide_eq_decide.mpr (by omega)
    simp only [runF, exSs, exS, evE, evEs, evO, evT, evR, evRs, bnd, onE, onN, F.bind, op2, rdV, rdVs, lfD, lf, bopD, cmpD, bltD, truD, dats, dats0, isScal, anyR, asg, asgs, endD, sets, noEx, isOwn, add_ii, sub_ii, lt_ii, gt_ii, le_ii, isD, Option.map_some, Option.map_none, Option.bind_some, Option.bind_none, Option.map, Option.bind, List.getD_cons_zero, List.getD_cons_succ, List.set_cons_zero, List.set_cons_succ, List.length_cons, List.length_nil, List.map_cons, List.map_nil, List.cons_append, List.nil_append, List.replicate, Nat.reduceAdd, Nat.reduceSub, Nat.reduceLT, Nat.reduceLeDiff, Nat.reduceBEq, Nat.beq, Nat.ble, if_true, if_false, ite_true, ite_false, reduceIte, Bool.not_true, Bool.not_false, Bool.or_true, Bool.true_or, Bool.false_or, Bool.or_false, List.getElem?_cons_zero, List.getElem?_cons_succ, b_leaves_out, e3, e4, e5, e1, e2, sc_1, decide_true, h1, reduceCtorEq, decide_false]
  | fewest =>
    rw [hlk] at e3 e4 e5
    have h1 : decide ((c.2 : Int) + (cover w s (p + c.2) : Int) < 1 + (cover w s (p + 1) : Int)) = decide (c.2 + cover w s (p + c.2) < 1 + cover w s (p + 1)) := decide_eq_decide.mpr (by omega)
    simp only [runF, exSs, exS, evE, evEs, evO, evT, evR, evRs, bnd, onE, onN, F.bind, op2, rdV, rdVs, lfD, lf, bopD, cmpD, bltD, truD, dats, dats0, isScal, anyR, asg, asgs, endD, sets, noEx, isOwn, add_ii, sub_ii, lt_ii, gt_ii, le_ii, isD, Option.map_some, Option.map_none, Option.bind_some, Option.bind_none, Option.map, Option.bind, List.getD_cons_zero, List.getD_cons_succ, List.set_cons_zero, List.set_cons_succ, List.length_cons, List.length_nil, List.map_cons, List.map_nil, List.cons_append, List.nil_append, List.replicate, Nat.reduceAdd, Nat.reduceSub, Nat.reduceLT, Nat.reduceLeDiff, Nat.reduceBEq, Nat.beq, Nat.ble, if_true, if_false, ite_true, ite_false, reduceIte, Bool.not_true, Bool.not_false, Bool.or_true, Bool.true_or, Bool.false_or, Bool.or_false, List.getElem?_cons_zero, List.getElem?_cons_succ, b_leaves_out, e3, e4, e5, e1, e2, sc_1, decide_true, h1, reduceCtorEq, decide_false]
/-- the token at a place (of a way other than fewest) -/
def tokAt (w : Way) (s : List Nat) (p : Nat) : Tok := match bestOf w s p with
  | none => .lit (s.getD p 0)
  | some c => if leaves w s p c.2 = true then .lit (s.getD p 0) else .cpy c.1 c.2
theorem lenAt_le (s : List Nat) (b : Nat) : ∀ (m p : Nat), lenAt s p b m ≤ m
  | 0, p => Nat.le_refl _
  | m + 1, p => by
    rw [lenAt]
    split
    · have := lenAt_le s b m (p + 1)
      omega
    · omega
theorem cap_le {w : Way} (hw : w.Ok) (b : Nat) : cap w b ≤ 4 := by
  have := hw.m2
  unfold cap
  split <;> omega
theorem cps_mem {w : Way} {s : List Nat} {p : Nat} {c : Nat × Nat} (h : c ∈ cps w s p) : ∃ i, i < min w.win p ∧ c.1 = 1 + i ∧ c.2 = lenAt s p (1 + i) (cap w (1 + i)) ∧ w.least ≤ c.2 := by
  obtain ⟨i, hi, e⟩ := List.mem_filterMap.mp h
  unfold cp1 at e
  split at e
  · cases e
    exact ⟨i, List.mem_range.mp hi, rfl, rfl, by assumption⟩
  · cases e
theorem bestOf_mem {w : Way} {s : List Nat} {p : Nat} {c : Nat × Nat} (h : bestOf w s p = some c) : c ∈ cps w s p := by
  unfold bestOf at h
  split at h
  · exact (List.mem_filter.mp (List.mem_of_getLast? h)).1
  · exact (List.mem_filter.mp (List.mem_of_head? h)).1
theorem best_le {w : Way} (hw : w.Ok) {s : List Nat} {p : Nat} {c : Nat × Nat} (h : bestOf w s p = some c) : 1 ≤ c.1 ∧ c.1 ≤ 4 ∧ 2 ≤ c.2 ∧ c.2 ≤ 4 := by
  obtain ⟨i, h1, h2, h3, h4⟩ := cps_mem (bestOf_mem h)
  have := lenAt_le s (1 + i) (cap w (1 + i)) p
  have := cap_le hw (1 + i)
  have := hw.w2
  have := hw.l1
  omega
theorem tokAt_ok {w : Way} (hw : w.Ok) (s : List Nat) (p : Nat) : (tokAt w s p).Ok := by
  unfold tokAt
  split
  · trivial
  · rename_i c hc
    split
    · trivial
    · exact best_le hw hc
theorem c_token_at [Has T 4 b_length_at] [Has T 5 b_copies_of] [Has T 6 b_best_of] [Has T 10 b_cover_of] [Has T 11 b_leaves_out] [Has T 14 b_token_at] {w : Way} (hw : w.Ok) {s : List Nat} (hs : AB s) (hl : s.length ≤ 900) (p : Nat) (hp : p < s.length) (hn : 10 ≤ wn) :
    callF gc T wn (k + 6) 14 [w.d, .str s, .int p] = ok (tokAt w s p).d := by
  rw [call_has b_token_at]
  have e1 := c_best_of (gc := gc) (T := T) (wn := wn) (k := k + 2) hw hs (by omega) p (by omega) hn
  have e2 := sub_str (z := (p : Int)) (show s.length ≤ 1000 by omega) rfl hp
  have e3 : s.getD p 0 = s[p] := by simp [List.getD_eq_getElem?_getD, hp]
  unfold tokAt
  cases hb : bestOf w s p with
  | none =>
    rw [hb] at e1
    simp only [bestD] at e1
    simp only [runF, exSs, exS, evE, evEs, evO, evT, evR, evRs, bnd, onE, onN, F.bind, op2, rdV, rdVs, lfD, lf, bopD, cmpD, bltD, truD, dats, dats0, isScal, anyR, asg, asgs, endD, sets, noEx, isOwn, add_ii, sub_ii, lt_ii, gt_ii, le_ii, isD, Option.map_some, Option.map_none, Option.bind_some, Option.bind_none, Option.map, Option.bind, List.getD_cons_zero, List.getD_cons_succ, List.set_cons_zero, List.set_cons_succ, List.length_cons, List.length_nil, List.map_cons, List.map_nil, List.cons_append, List.nil_append, List.replicate, Nat.reduceAdd, Nat.reduceSub, Nat.reduceLT, Nat.reduceLeDiff, Nat.reduceBEq, Nat.beq, Nat.ble, if_true, if_false, ite_true, ite_false, reduceIte, Bool.not_true, Bool.not_false, Bool.or_true, Bool.true_or, Bool.false_or, Bool.or_false, List.getElem?_cons_zero, List.getElem?_cons_succ, b_token_at, e1, e2, Tok.d, e3]
  | some c =>
    rw [hb] at e1
    simp only [bestD] at e1
    have e4 := c_leaves_out (gc := gc) (T := T) (wn := wn) (k := k) hw hs hl p (by omega) c (by have := best_le hw hb; omega) hn
    have e5 : isD (cpD c) .non = some false := rfl
    cases hv : leaves w s p c.2 with
    | true =>
      rw [hv] at e4
      simp only [cpD] at e1 e4
      simp only [runF, exSs, exS, evE, evEs, evO, evT, evR, evRs, bnd, onE, onN, F.bind, op2, rdV, rdVs, lfD, lf, bopD, cmpD, bltD, truD, dats, dats0, isScal, anyR, asg, asgs, endD, sets, noEx, isOwn, add_ii, sub_ii, lt_ii, gt_ii, le_ii, isD, Option.map_some, Option.map_none, Option.bind_some, Option.bind_none, Option.map, Option.bind, List.getD_cons_zero, List.getD_cons_succ, List.set_cons_zero, List.set_cons_succ, List.length_cons, List.length_nil, List.map_cons, List.map_nil, List.cons_append, List.nil_append, List.replicate, Nat.reduceAdd, Nat.reduceSub, Nat.reduceLT, Nat.reduceLeDiff, Nat.reduceBEq, Nat.beq, Nat.ble, if_true, if_false, ite_true, ite_false, reduceIte, Bool.not_true, Bool.not_false, Bool.or_true, Bool.true_or, Bool.false_or, Bool.or_false, List.getElem?_cons_zero, List.getElem?_cons_succ, b_token_at, e1, e2, e4, hv, Tok.d, e3]
    | false =>
      rw [hv] at e4
      simp only [cpD] at e1 e4
      simp only [runF, exSs, exS, evE, evEs, evO, evT, evR, evRs, bnd, onE, onN, F.bind, op2, rdV, rdVs, lfD, lf, bopD, cmpD, bltD, truD, dats, dats0, isScal, anyR, asg, asgs, endD, sets, noEx, isOwn, add_ii, sub_ii, lt_ii, gt_ii, le_ii, isD, Option.map_some, Option.map_none, Option.bind_some, Option.bind_none, Option.map, Option.bind, List.getD_cons_zero, List.getD_cons_succ, List.set_cons_zero, List.set_cons_succ, List.length_cons, List.length_nil, List.map_cons, List.map_nil, List.cons_append, List.nil_append, List.replicate, Nat.reduceAdd, Nat.reduceSub, Nat.reduceLT, Nat.reduceLeDiff, Nat.reduceBEq, Nat.beq, Nat.ble, if_true, if_false, ite_true, ite_false, reduceIte, Bool.not_true, Bool.not_false, Bool.or_true, Bool.true_or, Bool.false_or, Bool.or_false, List.getElem?_cons_zero, List.getElem?_cons_succ, b_token_at, e1, e2, e4, hv, Tok.d, e3, Bool.false_eq_true]
end
end Bk
/-! BkS: the least numbers, evaluated. -/
namespace Bk
section
variable {gc : Gc} {T : Tab} {wn k : Nat}
theorem h_get (A : Hq) (o : Ob) : (A ++ [o])[A.length]? = some o := by simp
theorem h_set (A : Hq) (o q : Ob) : (A ++ [o]).set A.length q = A ++ [q] := by simp
theorem rng_dn (n : Nat) (hn : n ≤ 1000) : rngN ((n : Int) - 1) (-1) = some ((List.range n).map fun i : Nat => D.int ((n - 1 - i : Nat) : Int)) := by
  unfold rngN
  rw [if_pos ⟨⟨by omega, by omega⟩, by omega, by omega⟩, show ((n : Int) - 1 - -1).toNat = n by omega]
  refine congrArg some (List.map_congr_left fun i hi => ?_)
  have := List.mem_range.mp hi
  rw [show (n : Int) - 1 - (i : Int) = ((n - 1 - i : Nat) : Int) by omega]
theorem ble_lim {n : Nat} (h : n ≤ 10000) : Nat.ble n lim = true := Nat.ble_eq_true_of_le (Nat.le_trans h (by decide))
theorem lenAt_fit (s : List Nat) (b : Nat) : ∀ (m p : Nat), p ≤ s.length → p + lenAt s p b m ≤ s.length
  | 0, p, h => h
  | m + 1, p, h => by
    rw [lenAt]
    split
    · have := lenAt_fit s b m (p + 1) (by omega)
      omega
    · omega
theorem lenAt_mono {s : List Nat} {b : Nat} : ∀ {m p : Nat}, s.length ≤ p → lenAt s p b m = 0
  | 0, p, h => rfl
  | m + 1, p, h => by rw [lenAt, if_neg fun z => by omega]
/-- the numbers that a copy of some length leaves; t: the numbers from the next place on -/
def afters (w : Way) (t : List Nat) (c : Nat × Nat) : List Nat := (List.range (c.2 + 1 - w.least)).map fun i => t.getD (w.least + i - 1) 0
/-- the least numbers of the last j places and the end -/
def rl (w : Way) (s : List Nat) : Nat → List Nat
  | 0 => [0]
  | j + 1 => (1 + minN ((rl w s j).headD 0) ((cps w s (s.length - 1 - j)).flatMap (afters w (rl w s j)))) :: rl w s j
theorem rl_len (w : Way) (s : List Nat) : ∀ j, (rl w s j).length = j + 1
  | 0 => rfl
  | j + 1 => by rw [rl, List.length_cons, rl_len w s j]
theorem rl_ne (w : Way) (s : List Nat) (j : Nat) : rl w s j ≠ [] := fun h => by
  have := rl_len w s j
  rw [h] at this
  simp at this
def nls (l : List Nat) : List D := l.map fun n : Nat => D.int (n : Int)
theorem at_nls {l : List Nat} {z : Int} {n : Nat} (hz : z = (n : Int)) (hn : n < l.length) : subD (.lst (nls l)) (.int z) = some (.int (l.getD n 0)) := by
  have h := at_nat (xs := nls l) hz (by unfold nls; rw [List.length_map]; exact hn)
  show atD (nls l) z = _
  rw [h]
  simp [nls, List.getD_eq_getElem?_getD, hn]
theorem nls_len (l : List Nat) : (nls l).length = l.length := List.length_map ..
theorem nls_app (a b : List Nat) : nls (a ++ b) = nls a ++ nls b := List.map_append ..
/-- the whole row while it is made -/
def rowAt (w : Way) (s : List Nat) (j : Nat) : List Nat := List.replicate (s.length - j) 0 ++ rl w s j
theorem rowAt_len {w : Way} {s : List Nat} {j : Nat} (h : j ≤ s.length) : (rowAt w s j).length = s.length + 1 := by
  unfold rowAt
  rw [List.length_append, List.length_replicate, rl_len]
  omega
theorem rowAt_get {w : Way} {s : List Nat} {j z : Nat} (hj : j ≤ s.length) : (rowAt w s j).getD (s.length - j + z) 0 = (rl w s j).getD z 0 := by
  unfold rowAt
  simp only [List.getD_eq_getElem?_getD]
  rw [List.getElem?_append_right (by rw [List.length_replicate]; omega), List.length_replicate, show s.length - j + z - (s.length - j) = z by omega]
theorem rowAt_set {w : Way} {s : List Nat} {j : Nat} (hj : j < s.length) : (rowAt w s j).set (s.length - 1 - j) (1 + minN ((rl w s j).headD 0) ((cps w s (s.length - 1 - j)).flatMap (afters w (rl w s j)))) = rowAt w s (j + 1) := by
  unfold rowAt
  have h1 : List.replicate (s.length - j) 0 = List.replicate (s.length - (j + 1)) 0 ++ [0] := by
    rw [show s.length - j = s.length - (j + 1) + 1 by omega, List.replicate_succ']
  rw [h1, List.append_assoc, show s.length - 1 - j = (List.replicate (s.length - (j + 1)) 0).length by rw [List.length_replicate]; omega, List.set_append_right _ _ (Nat.le_refl _), Nat.sub_self]
  rw [List.length_replicate, show s.length - (j + 1) = s.length - 1 - j by omega]
  rfl
theorem nls_set (l : List Nat) (i v : Nat) : (nls l).set i (.int (v : Int)) = nls (l.set i v) := by
  unfold nls
  rw [List.map_set]
theorem min_nls {x : Nat} {l : List Nat} : minD [.lst (nls (x :: l))] = some (.int (minN x l)) := min_list
theorem rests_in {cl : Cl} {w : Way} (hw : w.Ok) {s : List Nat} (hl : s.length ≤ 100) {j : Nat} (hj : j < s.length) (junk : Hq) (y5 y6 : Option Vv) :
    ∃ x5 x6, forL (.tp [.nm 5, .nm 6]) (fun e h => exSs gc cl wn s_rests_of_2 e h) ((cps w s (s.length - 1 - j)).map cpD) [vd w.d, vs s, some (.r 0), vi (s.length - 1 - j : Nat), some (.r (junk.length + 1)), y5, y6, none] (.lst (nls (rowAt w s j)) :: (junk ++ [.lst (nls [(rl w s j).headD 0])]))
      = .ret (.nx [vd w.d, vs s, some (.r 0), vi (s.length - 1 - j : Nat), some (.r (junk.length + 1)), x5, x6, none] (.lst (nls (rowAt w s j)) :: (junk ++ [.lst (nls ((rl w s j).headD 0 :: (cps w s (s.length - 1 - j)).flatMap (afters w (rl w s j))))]))) := by
  obtain ⟨e', h', q1, x5, x6, rfl, rfl⟩ := for_pre (tg := .tp [.nm 5, .nm 6]) (body := fun e h => exSs gc cl wn s_rests_of_2 e h) (enc := cpD) (ys := cps w s (s.length - 1 - j))
    (R := fun (pre : List (Nat × Nat)) e h => ∃ x5 x6, e = [vd w.d, vs s, some (.r 0), vi (s.length - 1 - j : Nat), some (.r (junk.length + 1)), x5, x6, none] ∧ h = .lst (nls (rowAt w s j)) :: (junk ++ [.lst (nls ((rl w s j).headD 0 :: pre.flatMap (afters w (rl w s j))))]))
    (by
      rintro pre c post hp e h ⟨x5, x6, rfl, rfl⟩
      have hc : c ∈ cps w s (s.length - 1 - j) := by rw [hp]; simp
      obtain ⟨i, hi, hc1, hc2, hc3⟩ := cps_mem hc
      have hfit := lenAt_fit s (1 + i) (cap w (1 + i)) (s.length - 1 - j) (by omega)
      rw [← hc2] at hfit
      have hl1 := hw.l1
      have hm := lenAt_le s (1 + i) (cap w (1 + i)) (s.length - 1 - j)
      have hcap := cap_le hw (1 + i)
      have hcl : (cps w s (s.length - 1 - j)).length ≤ 4 := by
        have h1 := List.length_filterMap_le (cp1 w s (s.length - 1 - j)) (List.range (min w.win (s.length - 1 - j)))
        have h2 := List.length_range (n := min w.win (s.length - 1 - j))
        have h3 := hw.w2
        have h4 : (cps w s (s.length - 1 - j)).length = ((List.range (min w.win (s.length - 1 - j))).filterMap (cp1 w s (s.length - 1 - j))).length := rfl
        omega
      have hpre : pre.length ≤ 4 := by
        rw [hp, List.length_append] at hcl
        omega
      have haf : ∀ d ∈ cps w s (s.length - 1 - j), (afters w (rl w s j) d).length ≤ 5 := fun d hd => by
        obtain ⟨i, _, _, h2, _⟩ := cps_mem hd
        have := lenAt_le s (1 + i) (cap w (1 + i)) (s.length - 1 - j)
        have := cap_le hw (1 + i)
        unfold afters
        rw [List.length_map, List.length_range]
        omega
      have hfl : ∀ l : List (Nat × Nat), (∀ d ∈ l, d ∈ cps w s (s.length - 1 - j)) → (l.flatMap (afters w (rl w s j))).length ≤ 5 * l.length := fun l => by
        induction l with
        | nil => intro _; simp
        | cons d l ih =>
          intro hd
          have := ih fun z hz => hd z (List.mem_cons_of_mem _ hz)
          have := haf d (hd d List.mem_cons_self)
          rw [List.flatMap_cons, List.length_append, List.length_cons]
          omega
      have hfp := hfl pre fun d hd => by rw [hp]; simp [hd]
      have hac := haf c hc
      have ec : evE gc cl c_rests_of_1 [vd w.d, vs s, some (.r 0), vi (s.length - 1 - j : Nat), some (.r (junk.length + 1)), vi c.1, vi c.2, none] (.lst (nls (rowAt w s j)) :: (junk ++ [.lst (nls ((rl w s j).headD 0 :: pre.flatMap (afters w (rl w s j))))])) = ok (.d (.lst (nls (afters w (rl w s j) c)))) := by
        rw [show nls (afters w (rl w s j) c) = (List.range (c.2 + 1 - w.least)).map fun i => D.int ((rl w s j).getD (w.least + i - 1) 0) from List.map_map]
        refine ev_cmp1 (enc := fun i : Nat => D.int ((w.least + i : Nat) : Int)) (fun i => D.int ((rl w s j).getD (w.least + i - 1) 0)) (ev_rg2 (i := (w.least : Int)) (j := (c.2 : Int) + 1) (by simp only [runF, exSs, exS, evE, evEs, evO, evT, evR, evRs, bnd, onE, onN, F.bind, op2, rdV, rdVs, lfD, lf, bopD, cmpD, bltD, truD, dats, dats0, isScal, anyR, asg, asgs, endD, sets, noEx, isOwn, add_ii, sub_ii, lt_ii, gt_ii, le_ii, isD, Option.map_some, Option.map_none, Option.bind_some, Option.bind_none, Option.map, Option.bind, List.getD_cons_zero, List.getD_cons_succ, List.set_cons_zero, List.set_cons_succ, List.length_cons, List.length_nil, List.map_cons, List.map_nil, List.cons_append, List.nil_append, List.replicate, Nat.reduceAdd, Nat.reduceSub, Nat.reduceLT, Nat.reduceLeDiff, Nat.reduceBEq, Nat.beq, Nat.ble, if_true, if_false, ite_true, ite_false, reduceIte, Bool.not_true, Bool.not_false, Bool.or_true, Bool.true_or, Bool.false_or, Bool.or_false, List.getElem?_cons_zero, List.getElem?_cons_succ, sw_2]) (by simp only [runF, exSs, exS, evE, evEs, evO, evT, evR, evRs, bnd, onE, onN, F.bind, op2, rdV, rdVs, lfD, lf, bopD, cmpD, bltD, truD, dats, dats0, isScal, anyR, asg, asgs, endD, sets, noEx, isOwn, add_ii, sub_ii, lt_ii, gt_ii, le_ii, isD, Option.map_some, Option.map_none, Option.bind_some, Option.bind_none, Option.map, Option.bind, List.getD_cons_zero, List.getD_cons_succ, List.set_cons_zero, List.set_cons_succ, List.length_cons, List.length_nil, List.map_cons, List.map_nil, List.cons_append, List.nil_append, List.replicate, Nat.reduceAdd, Nat.reduceSub, Nat.reduceLT, Nat.reduceLeDiff, Nat.reduceBEq, Nat.beq, Nat.ble, if_true, if_false, ite_true, ite_false, reduceIte, Bool.not_true, Bool.not_false, Bool.or_true, Bool.true_or, Bool.false_or, Bool.or_false, List.getElem?_cons_zero, List.getElem?_cons_succ]) (rng_nat (b := c.2 + 1) rfl (by omega) (by have := hw.l2; omega) (by omega))) (by rw [List.length_range]; omega) fun z hz => ⟨_, rfl, ?_⟩
        have hz := List.mem_range.mp hz
        have ea := at_nls (l := rowAt w s j) (z := ((s.length - 1 - j : Nat) : Int) + ((w.least + z : Nat) : Int)) (n := s.length - j + (w.least + z - 1)) (by omega) (by rw [rowAt_len (by omega)]; omega)
        rw [rowAt_get (by omega)] at ea
        simp only [runF, exSs, exS, evE, evEs, evO, evT, evR, evRs, bnd, onE, onN, F.bind, op2, rdV, rdVs, lfD, lf, bopD, cmpD, bltD, truD, dats, dats0, isScal, anyR, asg, asgs, endD, sets, noEx, isOwn, add_ii, sub_ii, lt_ii, gt_ii, le_ii, isD, Option.map_some, Option.map_none, Option.bind_some, Option.bind_none, Option.map, Option.bind, List.getD_cons_zero, List.getD_cons_succ, List.set_cons_zero, List.set_cons_succ, List.length_cons, List.length_nil, List.map_cons, List.map_nil, List.cons_append, List.nil_append, List.replicate, Nat.reduceAdd, Nat.reduceSub, Nat.reduceLT, Nat.reduceLeDiff, Nat.reduceBEq, Nat.beq, Nat.ble, if_true, if_false, ite_true, ite_false, reduceIte, Bool.not_true, Bool.not_false, Bool.or_true, Bool.true_or, Bool.false_or, Bool.or_false, List.getElem?_cons_zero, List.getElem?_cons_succ, e_rests_of_0, wip, ea]
      have eb : Nat.ble ((nls ((rl w s j).headD 0 :: pre.flatMap (afters w (rl w s j)))).length + (nls (afters w (rl w s j) c)).length) lim = true := by
        apply ble_lim
        rw [nls_len, nls_len, List.length_cons]
        omega
      refine ⟨[vd w.d, vs s, some (.r 0), vi (s.length - 1 - j : Nat), some (.r (junk.length + 1)), vi c.1, vi c.2, none], _, _, rfl, ?_, vi c.1, vi c.2, rfl, rfl⟩
      simp only [vd, vs, vi] at ec
      simp only [runF, exSs, exS, evE, evEs, evO, evT, evR, evRs, bnd, onE, onN, F.bind, op2, rdV, rdVs, lfD, lf, bopD, cmpD, bltD, truD, dats, dats0, isScal, anyR, asg, asgs, endD, sets, noEx, isOwn, add_ii, sub_ii, lt_ii, gt_ii, le_ii, isD, Option.map_some, Option.map_none, Option.bind_some, Option.bind_none, Option.map, Option.bind, List.getD_cons_zero, List.getD_cons_succ, List.set_cons_zero, List.set_cons_succ, List.length_cons, List.length_nil, List.map_cons, List.map_nil, List.cons_append, List.nil_append, List.replicate, Nat.reduceAdd, Nat.reduceSub, Nat.reduceLT, Nat.reduceLeDiff, Nat.reduceBEq, Nat.beq, Nat.ble, if_true, if_false, ite_true, ite_false, reduceIte, Bool.not_true, Bool.not_false, Bool.or_true, Bool.true_or, Bool.false_or, Bool.or_false, List.getElem?_cons_zero, List.getElem?_cons_succ, s_rests_of_2, ec, h_get, eb, h_set, ← nls_app, List.flatMap_append, List.flatMap_cons, List.flatMap_nil, List.append_nil]) (e := [vd w.d, vs s, some (.r 0), vi (s.length - 1 - j : Nat), some (.r (junk.length + 1)), y5, y6, none]) (h := .lst (nls (rowAt w s j)) :: (junk ++ [.lst (nls [(rl w s j).headD 0])])) ⟨y5, y6, rfl, rfl⟩
  exact ⟨x5, x6, q1⟩
theorem c_rests_of [Has T 4 b_length_at] [Has T 5 b_copies_of] [Has T 15 b_rests_of] {w : Way} (hw : w.Ok) {s : List Nat} (hs : AB s) (hl : s.length ≤ 100) (hn : 10 ≤ wn) :
    callF gc T wn (k + 3) 15 [w.d, .str s] = ok (.lst (nls (rl w s s.length))) := by
  rw [call_has b_rests_of]
  have outer := for_pre (tg := .nm 3) (body := fun e h => exSs gc (callF gc T wn (k + 2)) wn s_rests_of_3 e h) (enc := fun i : Nat => D.int ((s.length - 1 - i : Nat) : Int)) (ys := List.range s.length)
    (R := fun (pre : List Nat) e h => ∃ x3 x4 x5 x6 junk, e = [vd w.d, vs s, some (.r 0), x3, x4, x5, x6, none] ∧ h = .lst (nls (rowAt w s pre.length)) :: junk)
    ?_ (e := [vd w.d, vs s, some (.r 0), none, none, none, none, none]) (h := [.lst (nls (rowAt w s 0))]) ⟨none, none, none, none, [], rfl, rfl⟩
  · obtain ⟨e', h', q1, x3, x4, x5, x6, junk, rfl, rfl⟩ := outer
    have hi := ev_rg3 (gc := gc) (cl := callF gc T wn (k + 2)) (e := [vd w.d, vs s, some (.r 0), none, none, none, none, none]) (h := [.lst (nls (rowAt w s 0))]) (a := (.bop .sub (.blt .len (.cons (.var 1) .nil)) (.cst (.int 1)))) (b := .neg (.cst (.int 1))) (c := .neg (.cst (.int 1))) (by simp only [runF, exSs, exS, evE, evEs, evO, evT, evR, evRs, bnd, onE, onN, F.bind, op2, rdV, rdVs, lfD, lf, bopD, cmpD, bltD, truD, dats, dats0, isScal, anyR, asg, asgs, endD, sets, noEx, isOwn, add_ii, sub_ii, lt_ii, gt_ii, le_ii, isD, Option.map_some, Option.map_none, Option.bind_some, Option.bind_none, Option.map, Option.bind, List.getD_cons_zero, List.getD_cons_succ, List.set_cons_zero, List.set_cons_succ, List.length_cons, List.length_nil, List.map_cons, List.map_nil, List.cons_append, List.nil_append, List.replicate, Nat.reduceAdd, Nat.reduceSub, Nat.reduceLT, Nat.reduceLeDiff, Nat.reduceBEq, Nat.beq, Nat.ble, if_true, if_false, ite_true, ite_false, reduceIte, Bool.not_true, Bool.not_false, Bool.or_true, Bool.true_or, Bool.false_or, Bool.or_false, List.getElem?_cons_zero, List.getElem?_cons_succ, len_str (show s.length ≤ 1000 by omega)]) (by simp only [runF, exSs, exS, evE, evEs, evO, evT, evR, evRs, bnd, onE, onN, F.bind, op2, rdV, rdVs, lfD, lf, bopD, cmpD, bltD, truD, dats, dats0, isScal, anyR, asg, asgs, endD, sets, noEx, isOwn, add_ii, sub_ii, lt_ii, gt_ii, le_ii, isD, Option.map_some, Option.map_none, Option.bind_some, Option.bind_none, Option.map, Option.bind, List.getD_cons_zero, List.getD_cons_succ, List.set_cons_zero, List.set_cons_succ, List.length_cons, List.length_nil, List.map_cons, List.map_nil, List.cons_append, List.nil_append, List.replicate, Nat.reduceAdd, Nat.reduceSub, Nat.reduceLT, Nat.reduceLeDiff, Nat.reduceBEq, Nat.beq, Nat.ble, if_true, if_false, ite_true, ite_false, reduceIte, Bool.not_true, Bool.not_false, Bool.or_true, Bool.true_or, Bool.false_or, Bool.or_false, List.getElem?_cons_zero, List.getElem?_cons_succ]) (by simp only [runF, exSs, exS, evE, evEs, evO, evT, evR, evRs, bnd, onE, onN, F.bind, op2, rdV, rdVs, lfD, lf, bopD, cmpD, bltD, truD, dats, dats0, isScal, anyR, asg, asgs, endD, sets, noEx, isOwn, add_ii, sub_ii, lt_ii, gt_ii, le_ii, isD, Option.map_some, Option.map_none, Option.bind_some, Option.bind_none, Option.map, Option.bind, List.getD_cons_zero, List.getD_cons_succ, List.set_cons_zero, List.set_cons_succ, List.length_cons, List.length_nil, List.map_cons, List.map_nil, List.cons_append, List.nil_append, List.replicate, Nat.reduceAdd, Nat.reduceSub, Nat.reduceLT, Nat.reduceLeDiff, Nat.reduceBEq, Nat.beq, Nat.ble, if_true, if_false, ite_true, ite_false, reduceIte, Bool.not_true, Bool.not_false, Bool.or_true, Bool.true_or, Bool.false_or, Bool.or_false, List.getElem?_cons_zero, List.getElem?_cons_succ]) (rng_dn s.length (by omega))
    have e0 : rowAt w s s.length = rl w s s.length := by unfold rowAt; simp
    rw [List.length_range, e0] at q1
    have e1 : (0 : Int) ≤ (s.length : Int) + 1 ∧ (s.length : Int) + 1 ≤ 10000 ∧ True := ⟨by omega, by omega, trivial⟩
    have e2 : repD ((s.length : Int) + 1).toNat [D.int 0] = nls (rowAt w s 0) := by
      rw [show ((s.length : Int) + 1).toNat = s.length + 1 by omega]
      unfold rowAt repD nls rl
      rw [Nat.sub_zero, List.map_append, List.map_replicate]
      generalize s.length = m
      induction m with
      | zero => rfl
      | succ m ih => rw [List.replicate_succ, List.flatten_cons, ih]; rfl
    simp only [vd, vs, vi] at q1 hi
    simp only [runF, exSs, exS, evE, evEs, evO, evT, evR, evRs, bnd, onE, onN, F.bind, op2, rdV, rdVs, lfD, lf, bopD, cmpD, bltD, truD, dats, dats0, isScal, anyR, asg, asgs, endD, sets, noEx, isOwn, add_ii, sub_ii, lt_ii, gt_ii, le_ii, isD, Option.map_some, Option.map_none, Option.bind_some, Option.bind_none, Option.map, Option.bind, List.getD_cons_zero, List.getD_cons_succ, List.set_cons_zero, List.set_cons_succ, List.length_cons, List.length_nil, List.map_cons, List.map_nil, List.cons_append, List.nil_append, List.replicate, Nat.reduceAdd, Nat.reduceSub, Nat.reduceLT, Nat.reduceLeDiff, Nat.reduceBEq, Nat.beq, Nat.ble, if_true, if_false, ite_true, ite_false, reduceIte, Bool.not_true, Bool.not_false, Bool.or_true, Bool.true_or, Bool.false_or, Bool.or_false, List.getElem?_cons_zero, List.getElem?_cons_succ, b_rests_of, len_str (show s.length ≤ 1000 by omega), if_pos e1, e2, hi, q1]
  · rintro pre i post hp e h ⟨x3, x4, x5, x6, junk, rfl, rfl⟩
    have hi : i < s.length := List.mem_range.mp (by rw [hp]; simp)
    have hpi : pre.length = i := by
      have h1 := congrArg (fun l => l[pre.length]?) hp
      simp only [List.getElem?_append_right (Nat.le_refl pre.length), Nat.sub_self, List.getElem?_cons_zero] at h1
      have h2 : pre.length < s.length := by
        have := congrArg List.length hp
        simp at this
        omega
      rw [List.getElem?_range h2] at h1
      exact Option.some.inj h1
    rw [hpi]
    have hrow := rowAt_len (w := w) (s := s) (j := i) (by omega)
    have e1 := at_nls (l := rowAt w s i) (z := ((s.length - 1 - i : Nat) : Int) + 1) (n := s.length - i + 0) (by omega) (by omega)
    rw [rowAt_get (by omega)] at e1
    have e1h : (rl w s i).getD 0 0 = (rl w s i).headD 0 := by cases rl w s i <;> rfl
    rw [e1h] at e1
    obtain ⟨x5', x6', q⟩ := rests_in (gc := gc) (cl := callF gc T wn (k + 2)) (wn := wn) hw hl hi junk x5 x6
    have e2 := c_copies_of (gc := gc) (T := T) (wn := wn) (k := k) hw hs (show s.length ≤ 1000 by omega) (s.length - 1 - i) (by omega) hn
    have e3 := ev_seq (gc := gc) (cl := callF gc T wn (k + 2)) (e := [vd w.d, vs s, some (.r 0), vi (s.length - 1 - i : Nat), some (.r (junk.length + 1)), x5, x6, none]) (h := .lst (nls (rowAt w s i)) :: (junk ++ [.lst (nls [(rl w s i).headD 0])])) (x := (.cal 5 (.cons (.var 0) (.cons (.var 1) (.cons (.var 3) .nil))))) (d := .lst ((cps w s (s.length - 1 - i)).map cpD)) (by simp only [runF, exSs, exS, evE, evEs, evO, evT, evR, evRs, bnd, onE, onN, F.bind, op2, rdV, rdVs, lfD, lf, bopD, cmpD, bltD, truD, dats, dats0, isScal, anyR, asg, asgs, endD, sets, noEx, isOwn, add_ii, sub_ii, lt_ii, gt_ii, le_ii, isD, Option.map_some, Option.map_none, Option.bind_some, Option.bind_none, Option.map, Option.bind, List.getD_cons_zero, List.getD_cons_succ, List.set_cons_zero, List.set_cons_succ, List.length_cons, List.length_nil, List.map_cons, List.map_nil, List.cons_append, List.nil_append, List.replicate, Nat.reduceAdd, Nat.reduceSub, Nat.reduceLT, Nat.reduceLeDiff, Nat.reduceBEq, Nat.beq, Nat.ble, if_true, if_false, ite_true, ite_false, reduceIte, Bool.not_true, Bool.not_false, Bool.or_true, Bool.true_or, Bool.false_or, Bool.or_false, List.getElem?_cons_zero, List.getElem?_cons_succ, e2]) rfl
    have e4 := min_nls (x := (rl w s i).headD 0) (l := (cps w s (s.length - 1 - i)).flatMap (afters w (rl w s i)))
    have e5 : ixD (nls (rowAt w s i)).length ((s.length - 1 - i : Nat) : Int) = some (s.length - 1 - i) := by
      rw [nls_len, hrow]
      unfold ixD
      rw [if_pos (by omega), if_pos (by omega)]
      rfl
    have e6 : (nls (rowAt w s i)).set (s.length - 1 - i) (D.int (1 + (minN ((rl w s i).headD 0) ((cps w s (s.length - 1 - i)).flatMap (afters w (rl w s i))) : Int))) = nls (rowAt w s (i + 1)) := by
      rw [← rowAt_set hi, ← nls_set, Int.natCast_add]
      rfl
    refine ⟨[vd w.d, vs s, some (.r 0), vi (s.length - 1 - i : Nat), x4, x5, x6, none], [vd w.d, vs s, some (.r 0), vi (s.length - 1 - i : Nat), some (.r (junk.length + 1)), x5', x6', none], .lst (nls (rowAt w s (i + 1))) :: (junk ++ [.lst (nls ((rl w s i).headD 0 :: (cps w s (s.length - 1 - i)).flatMap (afters w (rl w s i))))]), rfl, ?_, _, _, _, _, _, rfl, by rw [List.length_append, hpi]; rfl⟩
    have e7 : [D.int ((rl w s i).headD 0)] = nls [(rl w s i).headD 0] := rfl
    simp only [vd, vs, vi] at q e3
    simp only [runF, exSs, exS, evE, evEs, evO, evT, evR, evRs, bnd, onE, onN, F.bind, op2, rdV, rdVs, lfD, lf, bopD, cmpD, bltD, truD, dats, dats0, isScal, anyR, asg, asgs, endD, sets, noEx, isOwn, add_ii, sub_ii, lt_ii, gt_ii, le_ii, isD, Option.map_some, Option.map_none, Option.bind_some, Option.bind_none, Option.map, Option.bind, List.getD_cons_zero, List.getD_cons_succ, List.set_cons_zero, List.set_cons_succ, List.length_cons, List.length_nil, List.map_cons, List.map_nil, List.cons_append, List.nil_append, List.replicate, Nat.reduceAdd, Nat.reduceSub, Nat.reduceLT, Nat.reduceLeDiff, Nat.reduceBEq, Nat.beq, Nat.ble, if_true, if_false, ite_true, ite_false, reduceIte, Bool.not_true, Bool.not_false, Bool.or_true, Bool.true_or, Bool.false_or, Bool.or_false, List.getElem?_cons_zero, List.getElem?_cons_succ, s_rests_of_3, e1, e7, e3, q, h_get, e4, e5, e6]
/-! ### fewest_at -/
/-- the lengths of a copy with which the rest needs one token less -/
def goods (w : Way) (R : List Nat) (p : Nat) (c : Nat × Nat) : List Nat := ((List.range (c.2 + 1 - w.least)).map fun i => w.least + i).filter fun z => decide ((R.getD (p + z) 0 : Int) = (R.getD p 0 : Int) - 1)
/-- one copy more is looked at -/
def fewStep (w : Way) (R : List Nat) (p : Nat) (t : Tok) (c : Nat × Nat) : Tok := match (goods w R p c).getLast? with
  | none => t
  | some z => if t.size < z ∨ (z = t.size ∧ w.far = true) then .cpy c.1 z else t
def fewAt (w : Way) (s : List Nat) (R : List Nat) (p : Nat) : Tok := (cps w s p).foldl (fewStep w R p) (.lit (s.getD p 0))
theorem fewStep_ok {w : Way} {R : List Nat} {p : Nat} {t : Tok} {c : Nat × Nat} (ht : t.Ok) (hw : w.Ok) (hc : 1 ≤ c.1 ∧ c.1 ≤ 4 ∧ c.2 ≤ 4) : (fewStep w R p t c).Ok := by
  unfold fewStep
  split
  · exact ht
  · rename_i z hz
    split
    · have hm := List.mem_of_getLast? hz
      obtain ⟨i, hi, e⟩ := List.mem_map.mp (List.mem_filter.mp hm).1
      have := List.mem_range.mp hi
      have := hw.l1
      exact ⟨hc.1, hc.2.1, by omega, by omega⟩
    · exact ht
theorem tok_cpy (b n : Nat) : (Tok.cpy b n).d = .tup [.int b, .int n] := rfl
theorem tok_lit (c : Nat) : (Tok.lit c).d = .tup [.int 0, .str [c]] := rfl
theorem eq_nil_ne {xs : List D} (h : D.shps 59 xs = true) : (eqD (.lst xs) (.lst [])).map (!·) = some (!xs.isEmpty) := by rw [eq_nil h]; rfl
theorem c_fewest_at [Has T 4 b_length_at] [Has T 5 b_copies_of] [Has T 12 b_size_of] [Has T 13 b_fewest_at] {w : Way} (hw : w.Ok) {s : List Nat} (hs : AB s) (hl : s.length ≤ 100) (p : Nat) (hp : p < s.length) (R : List Nat) (hR : R.length = s.length + 1) (hn : 10 ≤ wn) :
    callF gc T wn (k + 3) 13 [w.d, .str s, .int p, .lst (nls R)] = ok (fewAt w s R p).d ∧ (fewAt w s R p).Ok := by
  rw [call_has b_fewest_at]
  have e2 := c_copies_of (gc := gc) (T := T) (wn := wn) (k := k) hw hs (show s.length ≤ 1000 by omega) p (by omega) hn
  have es := sub_str (z := (p : Int)) (show s.length ≤ 1000 by omega) rfl hp
  have e3 : s.getD p 0 = s[p] := by simp [List.getD_eq_getElem?_getD, hp]
  obtain ⟨e', h', q1, x5, x6, x7, rfl, rfl, ht⟩ := for_pre (tg := .tp [.nm 5, .nm 6]) (body := fun e h => exSs gc (callF gc T wn (k + 2)) wn s_fewest_at_3 e h) (enc := cpD) (ys := cps w s p)
    (R := fun (pre : List (Nat × Nat)) e h => ∃ x5 x6 x7, e = [vd w.d, vs s, vi p, vd (.lst (nls R)), vd (pre.foldl (fewStep w R p) (.lit (s.getD p 0))).d, x5, x6, x7, none] ∧ h = [] ∧ (pre.foldl (fewStep w R p) (.lit (s.getD p 0))).Ok)
    (by
      rintro pre c post hpc e h ⟨x5, x6, x7, rfl, rfl, ht⟩
      have hc : c ∈ cps w s p := by rw [hpc]; simp
      obtain ⟨i, hi, hc1, hc2, hc3⟩ := cps_mem hc
      have hfit := lenAt_fit s (1 + i) (cap w (1 + i)) p (by omega)
      rw [← hc2] at hfit
      have hl1 := hw.l1
      have hl2 := hw.l2
      rw [List.foldl_append, List.foldl_cons, List.foldl_nil]
      generalize pre.foldl (fewStep w R p) (.lit (s.getD p 0)) = t at ht ⊢
      have hok : (fewStep w R p t c).Ok := fewStep_ok ht hw (by have := lenAt_le s (1 + i) (cap w (1 + i)) p; have := cap_le hw (1 + i); have := hw.w2; omega)
      have ec : evE gc (callF gc T wn (k + 2)) c_fewest_at_2 [vd w.d, vs s, vi p, vd (.lst (nls R)), vd t.d, vi c.1, vi c.2, x7, none] [] = ok (.d (.lst (nls (goods w R p c)))) := by
        have : nls (goods w R p c) = (((List.range (c.2 + 1 - w.least)).filter fun i => decide ((R.getD (p + (w.least + i)) 0 : Int) = (R.getD p 0 : Int) - 1)).map fun i => D.int ((w.least + i : Nat) : Int)) := by
          unfold goods nls
          rw [List.filter_map, List.map_map]
          rfl
        rw [this]
        refine ev_cmpc (enc := fun i : Nat => D.int ((w.least + i : Nat) : Int)) (fun i => decide ((R.getD (p + (w.least + i)) 0 : Int) = (R.getD p 0 : Int) - 1)) (fun i => D.int ((w.least + i : Nat) : Int)) (ev_rg2 (i := (w.least : Int)) (j := (c.2 : Int) + 1) (by simp only [runF, exSs, exS, evE, evEs, evO, evT, evR, evRs, bnd, onE, onN, F.bind, op2, rdV, rdVs, lfD, lf, bopD, cmpD, bltD, truD, dats, dats0, isScal, anyR, asg, asgs, endD, sets, noEx, isOwn, add_ii, sub_ii, lt_ii, gt_ii, le_ii, isD, Option.map_some, Option.map_none, Option.bind_some, Option.bind_none, Option.map, Option.bind, List.getD_cons_zero, List.getD_cons_succ, List.set_cons_zero, List.set_cons_succ, List.length_cons, List.length_nil, List.map_cons, List.map_nil, List.cons_append, List.nil_append, List.replicate, Nat.reduceAdd, Nat.reduceSub, Nat.reduceLT, Nat.reduceLeDiff, Nat.reduceBEq, Nat.beq, Nat.ble, if_true, if_false, ite_true, ite_false, reduceIte, Bool.not_true, Bool.not_false, Bool.or_true, Bool.true_or, Bool.false_or, Bool.or_false, List.getElem?_cons_zero, List.getElem?_cons_succ, sw_2]) (by simp only [runF, exSs, exS, evE, evEs, evO, evT, evR, evRs, bnd, onE, onN, F.bind, op2, rdV, rdVs, lfD, lf, bopD, cmpD, bltD, truD, dats, dats0, isScal, anyR, asg, asgs, endD, sets, noEx, isOwn, add_ii, sub_ii, lt_ii, gt_ii, le_ii, isD, Option.map_some, Option.map_none, Option.bind_some, Option.bind_none, Option.map, Option.bind, List.getD_cons_zero, List.getD_cons_succ, List.set_cons_zero, List.set_cons_succ, List.length_cons, List.length_nil, List.map_cons, List.map_nil, List.cons_append, List.nil_append, List.replicate, Nat.reduceAdd, Nat.reduceSub, Nat.reduceLT, Nat.reduceLeDiff, Nat.reduceBEq, Nat.beq, Nat.ble, if_true, if_false, ite_true, ite_false, reduceIte, Bool.not_true, Bool.not_false, Bool.or_true, Bool.true_or, Bool.false_or, Bool.or_false, List.getElem?_cons_zero, List.getElem?_cons_succ]) (rng_nat (b := c.2 + 1) rfl (by omega) (by omega) (by omega))) (by rw [List.length_range]; omega) fun z hz => ⟨_, rfl, ?_, fun _ => by simp only [runF, exSs, exS, evE, evEs, evO, evT, evR, evRs, bnd, onE, onN, F.bind, op2, rdV, rdVs, lfD, lf, bopD, cmpD, bltD, truD, dats, dats0, isScal, anyR, asg, asgs, endD, sets, noEx, isOwn, add_ii, sub_ii, lt_ii, gt_ii, le_ii, isD, Option.map_some, Option.map_none, Option.bind_some, Option.bind_none, Option.map, Option.bind, List.getD_cons_zero, List.getD_cons_succ, List.set_cons_zero, List.set_cons_succ, List.length_cons, List.length_nil, List.map_cons, List.map_nil, List.cons_append, List.nil_append, List.replicate, Nat.reduceAdd, Nat.reduceSub, Nat.reduceLT, Nat.reduceLeDiff, Nat.reduceBEq, Nat.beq, Nat.ble, if_true, if_false, ite_true, ite_false, reduceIte, Bool.not_true, Bool.not_false, Bool.or_true, Bool.true_or, Bool.false_or, Bool.or_false, List.getElem?_cons_zero, List.getElem?_cons_succ, e_fewest_at_0, wip]⟩
        have hz := List.mem_range.mp hz
        have ea := at_nls (l := R) (z := (p : Int) + ((w.least + z : Nat) : Int)) (n := p + (w.least + z)) (by omega) (by omega)
        have eb := at_nls (l := R) (z := (p : Int)) (n := p) rfl (by omega)
        simp only [runF, exSs, exS, evE, evEs, evO, evT, evR, evRs, bnd, onE, onN, F.bind, op2, rdV, rdVs, lfD, lf, bopD, cmpD, bltD, truD, dats, dats0, isScal, anyR, asg, asgs, endD, sets, noEx, isOwn, add_ii, sub_ii, lt_ii, gt_ii, le_ii, isD, Option.map_some, Option.map_none, Option.bind_some, Option.bind_none, Option.map, Option.bind, List.getD_cons_zero, List.getD_cons_succ, List.set_cons_zero, List.set_cons_succ, List.length_cons, List.length_nil, List.map_cons, List.map_nil, List.cons_append, List.nil_append, List.replicate, Nat.reduceAdd, Nat.reduceSub, Nat.reduceLT, Nat.reduceLeDiff, Nat.reduceBEq, Nat.beq, Nat.ble, if_true, if_false, ite_true, ite_false, reduceIte, Bool.not_true, Bool.not_false, Bool.or_true, Bool.true_or, Bool.false_or, Bool.or_false, List.getElem?_cons_zero, List.getElem?_cons_succ, t_fewest_at_1, wip, ea, eb, eq_ints]
      simp only [vd, vs, vi] at ec
      have esz := c_size_of (gc := gc) (T := T) (wn := wn) (k := k + 1) t ht
      have hsh : D.shps 59 (nls (goods w R p c)) = true := shps_map (fun n => rfl) _
      have enn := eq_nil_ne hsh
      refine ⟨_, [vd w.d, vs s, vi p, vd (.lst (nls R)), vd (fewStep w R p t c).d, vi c.1, vi c.2, vd (.lst (nls (goods w R p c))), none], [], rfl, ?_, _, _, _, rfl, rfl, hok⟩
      unfold fewStep
      cases hg : (goods w R p c).getLast? with
      | none =>
        have hgn : goods w R p c = [] := List.getLast?_eq_none_iff.mp hg
        rw [hgn] at ec
        rw [hgn]
        have e8 : eqD (.lst (nls [])) (.lst []) = some true := rfl
        simp only [runF, exSs, exS, evE, evEs, evO, evT, evR, evRs, bnd, onE, onN, F.bind, op2, rdV, rdVs, lfD, lf, bopD, cmpD, bltD, truD, dats, dats0, isScal, anyR, asg, asgs, endD, sets, noEx, isOwn, add_ii, sub_ii, lt_ii, gt_ii, le_ii, isD, Option.map_some, Option.map_none, Option.bind_some, Option.bind_none, Option.map, Option.bind, List.getD_cons_zero, List.getD_cons_succ, List.set_cons_zero, List.set_cons_succ, List.length_cons, List.length_nil, List.map_cons, List.map_nil, List.cons_append, List.nil_append, List.replicate, Nat.reduceAdd, Nat.reduceSub, Nat.reduceLT, Nat.reduceLeDiff, Nat.reduceBEq, Nat.beq, Nat.ble, if_true, if_false, ite_true, ite_false, reduceIte, Bool.not_true, Bool.not_false, Bool.or_true, Bool.true_or, Bool.false_or, Bool.or_false, List.getElem?_cons_zero, List.getElem?_cons_succ, s_fewest_at_3, ec, e8]
      | some z =>
        have hgn : goods w R p c ≠ [] := fun h => by rw [h] at hg; cases hg
        have e8 : eqD (.lst (nls (goods w R p c))) (.lst []) = some false := by
          rw [eq_nil hsh]
          cases h : goods w R p c with
          | nil => exact absurd h hgn
          | cons => rfl
        have e9 : subD (.lst (nls (goods w R p c))) (.int (-1)) = some (.int z) := by
          show atD (nls (goods w R p c)) (-1) = _
          rw [at_last (by unfold nls; simpa using hgn)]
          unfold nls
          rw [List.getLast?_map, hg]
          rfl
        by_cases h1 : t.size < z
        · have h2 : decide ((t.size : Int) < (z : Int)) = true := decide_eq_true (by omega)
          simp only [runF, exSs, exS, evE, evEs, evO, evT, evR, evRs, bnd, onE, onN, F.bind, op2, rdV, rdVs, lfD, lf, bopD, cmpD, bltD, truD, dats, dats0, isScal, anyR, asg, asgs, endD, sets, noEx, isOwn, add_ii, sub_ii, lt_ii, gt_ii, le_ii, isD, Option.map_some, Option.map_none, Option.bind_some, Option.bind_none, Option.map, Option.bind, List.getD_cons_zero, List.getD_cons_succ, List.set_cons_zero, List.set_cons_succ, List.length_cons, List.length_nil, List.map_cons, List.map_nil, List.cons_append, List.nil_append, List.replicate, Nat.reduceAdd, Nat.reduceSub, Nat.reduceLT, Nat.reduceLeDiff, Nat.reduceBEq, Nat.beq, Nat.ble, if_true, if_false, ite_true, ite_false, reduceIte, Bool.not_true, Bool.not_false, Bool.or_true, Bool.true_or, Bool.false_or, Bool.or_false, List.getElem?_cons_zero, List.getElem?_cons_succ, s_fewest_at_3, ec, e8, e9, esz, h2, if_pos (Or.inl h1 : t.size < z ∨ (z = t.size ∧ w.far = true)), tok_cpy]
        · have h2 : decide ((t.size : Int) < (z : Int)) = false := decide_eq_false (by omega)
          by_cases h3 : z = t.size
          · have h4 : eqD (.int (z : Int)) (.int (t.size : Int)) = some true := by rw [eq_nat, decide_eq_true h3]
            have h7 := sw_5 w
            by_cases h5 : w.far = true
            · have h6 : eqD (.str (tieS w.far)) (.str [102, 97, 114]) = some true := (eq_far w.far).trans (by rw [h5])
              have h8 : t.size < z ∨ (z = t.size ∧ w.far = true) := .inr ⟨h3, h5⟩
              simp only [runF, exSs, exS, evE, evEs, evO, evT, evR, evRs, bnd, onE, onN, F.bind, op2, rdV, rdVs, lfD, lf, bopD, cmpD, bltD, truD, dats, dats0, isScal, anyR, asg, asgs, endD, sets, noEx, isOwn, add_ii, sub_ii, lt_ii, gt_ii, le_ii, isD, Option.map_some, Option.map_none, Option.bind_some, Option.bind_none, Option.map, Option.bind, List.getD_cons_zero, List.getD_cons_succ, List.set_cons_zero, List.set_cons_succ, List.length_cons, List.length_nil, List.map_cons, List.map_nil, List.cons_append, List.nil_append, List.replicate, Nat.reduceAdd, Nat.reduceSub, Nat.reduceLT, Nat.reduceLeDiff, Nat.reduceBEq, Nat.beq, Nat.ble, if_true, if_false, ite_true, ite_false, reduceIte, Bool.not_true, Bool.not_false, Bool.or_true, Bool.true_or, Bool.false_or, Bool.or_false, List.getElem?_cons_zero, List.getElem?_cons_succ, s_fewest_at_3, ec, e8, e9, esz, h2, h4, h6, h7, if_pos h8, tok_cpy]
            · have h6 : eqD (.str (tieS w.far)) (.str [102, 97, 114]) = some false := (eq_far w.far).trans (by rw [Bool.eq_false_iff.mpr h5])
              have h8 : ¬ (t.size < z ∨ (z = t.size ∧ w.far = true)) := fun h => h.elim h1 fun q => h5 q.2
              simp only [runF, exSs, exS, evE, evEs, evO, evT, evR, evRs, bnd, onE, onN, F.bind, op2, rdV, rdVs, lfD, lf, bopD, cmpD, bltD, truD, dats, dats0, isScal, anyR, asg, asgs, endD, sets, noEx, isOwn, add_ii, sub_ii, lt_ii, gt_ii, le_ii, isD, Option.map_some, Option.map_none, Option.bind_some, Option.bind_none, Option.map, Option.bind, List.getD_cons_zero, List.getD_cons_succ, List.set_cons_zero, List.set_cons_succ, List.length_cons, List.length_nil, List.map_cons, List.map_nil, List.cons_append, List.nil_append, List.replicate, Nat.reduceAdd, Nat.reduceSub, Nat.reduceLT, Nat.reduceLeDiff, Nat.reduceBEq, Nat.beq, Nat.ble, if_true, if_false, ite_true, ite_false, reduceIte, Bool.not_true, Bool.not_false, Bool.or_true, Bool.true_or, Bool.false_or, Bool.or_false, List.getElem?_cons_zero, List.getElem?_cons_succ, s_fewest_at_3, ec, e8, e9, esz, h2, h4, h6, h7, if_neg h8]
          · have h4 : eqD (.int (z : Int)) (.int (t.size : Int)) = some false := by rw [eq_nat, decide_eq_false h3]
            have h8 : ¬ (t.size < z ∨ (z = t.size ∧ w.far = true)) := by simp [h1, h3]
            simp only [runF, exSs, exS, evE, evEs, evO, evT, evR, evRs, bnd, onE, onN, F.bind, op2, rdV, rdVs, lfD, lf, bopD, cmpD, bltD, truD, dats, dats0, isScal, anyR, asg, asgs, endD, sets, noEx, isOwn, add_ii, sub_ii, lt_ii, gt_ii, le_ii, isD, Option.map_some, Option.map_none, Option.bind_some, Option.bind_none, Option.map, Option.bind, List.getD_cons_zero, List.getD_cons_succ, List.set_cons_zero, List.set_cons_succ, List.length_cons, List.length_nil, List.map_cons, List.map_nil, List.cons_append, List.nil_append, List.replicate, Nat.reduceAdd, Nat.reduceSub, Nat.reduceLT, Nat.reduceLeDiff, Nat.reduceBEq, Nat.beq, Nat.ble, if_true, if_false, ite_true, ite_false, reduceIte, Bool.not_true, Bool.not_false, Bool.or_true, Bool.true_or, Bool.false_or, Bool.or_false, List.getElem?_cons_zero, List.getElem?_cons_succ, s_fewest_at_3, ec, e8, e9, esz, h2, h4, if_neg h8])
    (e := [vd w.d, vs s, vi p, vd (.lst (nls R)), vd (Tok.lit (s.getD p 0)).d, none, none, none, none]) (h := []) ⟨none, none, none, rfl, rfl, trivial⟩
  refine ⟨?_, ht⟩
  have e5 := ev_seq (gc := gc) (cl := callF gc T wn (k + 2)) (e := [vd w.d, vs s, vi p, vd (.lst (nls R)), vd (Tok.lit (s.getD p 0)).d, none, none, none, none]) (h := []) (x := (.cal 5 (.cons (.var 0) (.cons (.var 1) (.cons (.var 2) .nil))))) (d := .lst ((cps w s p).map cpD)) (by simp only [runF, exSs, exS, evE, evEs, evO, evT, evR, evRs, bnd, onE, onN, F.bind, op2, rdV, rdVs, lfD, lf, bopD, cmpD, bltD, truD, dats, dats0, isScal, anyR, asg, asgs, endD, sets, noEx, isOwn, add_ii, sub_ii, lt_ii, gt_ii, le_ii, isD, Option.map_some, Option.map_none, Option.bind_some, Option.bind_none, Option.map, Option.bind, List.getD_cons_zero, List.getD_cons_succ, List.set_cons_zero, List.set_cons_succ, List.length_cons, List.length_nil, List.map_cons, List.map_nil, List.cons_append, List.nil_append, List.replicate, Nat.reduceAdd, Nat.reduceSub, Nat.reduceLT, Nat.reduceLeDiff, Nat.reduceBEq, Nat.beq, Nat.ble, if_true, if_false, ite_true, ite_false, reduceIte, Bool.not_true, Bool.not_false, Bool.or_true, Bool.true_or, Bool.false_or, Bool.or_false, List.getElem?_cons_zero, List.getElem?_cons_succ, e2]) rfl
  simp only [vd, vs, vi, tok_lit, e3] at e5 q1
  simp only [runF, exSs, exS, evE, evEs, evO, evT, evR, evRs, bnd, onE, onN, F.bind, op2, rdV, rdVs, lfD, lf, bopD, cmpD, bltD, truD, dats, dats0, isScal, anyR, asg, asgs, endD, sets, noEx, isOwn, add_ii, sub_ii, lt_ii, gt_ii, le_ii, isD, Option.map_some, Option.map_none, Option.bind_some, Option.bind_none, Option.map, Option.bind, List.getD_cons_zero, List.getD_cons_succ, List.set_cons_zero, List.set_cons_succ, List.length_cons, List.length_nil, List.map_cons, List.map_nil, List.cons_append, List.nil_append, List.replicate, Nat.reduceAdd, Nat.reduceSub, Nat.reduceLT, Nat.reduceLeDiff, Nat.reduceBEq, Nat.beq, Nat.ble, if_true, if_false, ite_true, ite_false, reduceIte, Bool.not_true, Bool.not_false, Bool.or_true, Bool.true_or, Bool.false_or, Bool.or_false, List.getElem?_cons_zero, List.getElem?_cons_succ, b_fewest_at, es, e5, q1]
  unfold fewAt
  rw [e3]
end
end Bk
/-! BkU: what is written, seen. -/
namespace Bk
section
variable {gc : Gc} {T : Tab} {wn k : Nat}
/-- tokens one after another, from p on -/
def toks (f : Nat → Tok) (n : Nat) : Nat → Nat → List Tok
  | 0, _ => []
  | m + 1, p => if p < n then f p :: toks f n m (p + (f p).size) else []
def tokF (w : Way) (s : List Nat) (p : Nat) : Tok := if w.look = .fewest then fewAt w s (rl w s s.length) p else tokAt w s p
def tokens (w : Way) (s : List Nat) : List Tok := toks (tokF w s) s.length s.length 0
theorem size_pos {t : Tok} (h : t.Ok) : 1 ≤ t.size := by
  cases t with
  | lit c => exact Nat.le_refl _
  | cpy b n => have := h.2.2.1; show 1 ≤ n; omega
theorem toks_len (f : Nat → Tok) (n : Nat) : ∀ m p, (toks f n m p).length ≤ m
  | 0, p => Nat.le_refl _
  | m + 1, p => by
    rw [toks]
    split
    · have := toks_len f n m (p + (f p).size)
      rw [List.length_cons]
      omega
    · exact Nat.zero_le _
theorem tok_loop [Has T 12 b_size_of] {w : Way} {s : List Nat} (hl : s.length ≤ 100) {f : Nat → Tok} {rd : D}
    (hf : ∀ p, p < s.length → (f p).Ok ∧ ∀ x5 h, evE gc (callF gc T wn (k + 1)) (.ite (.val (.cmp .eq (.sub (.var 0) (.cst (.int 0))) (.cst (.str [102, 101, 119, 101, 115, 116])))) (.cal 13 (.cons (.var 0) (.cons (.var 1) (.cons (.var 3) (.cons (.var 2) .nil))))) (.cal 14 (.cons (.var 0) (.cons (.var 1) (.cons (.var 3) .nil))))) [vd w.d, vs s, vd rd, vi p, some (.r 0), x5] h = ok (.d (f p).d)) :
    ∀ (m p n : Nat) (fd : List Tok) (x5 : Option Vv), s.length ≤ p + m → m + 1 ≤ n → fd.length + m ≤ 150 → ∃ p' x5', whlL (fun e h => evT gc (callF gc T wn (k + 1)) t_tokens_of_0 e h) (fun e h => exSs gc (callF gc T wn (k + 1)) wn s_tokens_of_1 e h) n [vd w.d, vs s, vd rd, vi (p : Nat), some (.r 0), x5] [.lst (fd.map Tok.d)]
      = .ret (.nx [vd w.d, vs s, vd rd, p', some (.r 0), x5'] [.lst ((fd ++ toks f s.length m p).map Tok.d)]) := by
  intro m
  induction m with
  | zero =>
    intro p n fd x5 h1 h2 h3
    obtain ⟨n, rfl⟩ : ∃ v, n = v + 1 := ⟨n - 1, by omega⟩
    have hd : decide ((p : Int) < (s.length : Int)) = false := decide_eq_false (by omega)
    refine ⟨vi p, x5, ?_⟩
    rw [whl_stop (by simp only [runF, exSs, exS, evE, evEs, evO, evT, evR, evRs, bnd, onE, onN, F.bind, op2, rdV, rdVs, lfD, lf, bopD, cmpD, bltD, truD, dats, dats0, isScal, anyR, asg, asgs, endD, sets, noEx, isOwn, add_ii, sub_ii, lt_ii, gt_ii, le_ii, isD, Option.map_some, Option.map_none, Option.bind_some, Option.bind_none, Option.map, Option.bind, List.getD_cons_zero, List.getD_cons_succ, List.set_cons_zero, List.set_cons_succ, List.length_cons, List.length_nil, List.map_cons, List.map_nil, List.cons_append, List.nil_append, List.replicate, Nat.reduceAdd, Nat.reduceSub, Nat.reduceLT, Nat.reduceLeDiff, Nat.reduceBEq, Nat.beq, Nat.ble, if_true, if_false, ite_true, ite_false, reduceIte, Bool.not_true, Bool.not_false, Bool.or_true, Bool.true_or, Bool.false_or, Bool.or_false, List.getElem?_cons_zero, List.getElem?_cons_succ, t_tokens_of_0, len_str (show s.length ≤ 1000 by omega), hd]), toks, List.append_nil]
  | succ m ih =>
    intro p n fd x5 h1 h2 h3
    obtain ⟨n, rfl⟩ : ∃ v, n = v + 1 := ⟨n - 1, by omega⟩
    by_cases hp : p < s.length
    · have hd : decide ((p : Int) < (s.length : Int)) = true := decide_eq_true (by omega)
      obtain ⟨hok, hev⟩ := hf p hp
      have hev := hev x5 [.lst (fd.map Tok.d)]
      have esz := c_size_of (gc := gc) (T := T) (wn := wn) (k := k) (f p) hok
      have hb := blt_lim (n := (fd.map Tok.d).length) (by rw [List.length_map]; omega)
      have hpos := size_pos hok
      obtain ⟨p', x5', q⟩ := ih (p + (f p).size) n (fd ++ [f p]) (vd (f p).d) (by omega) (by omega) (by rw [List.length_append]; simp only [List.length_cons, List.length_nil]; omega)
      refine ⟨p', x5', ?_⟩
      rw [whl_step (e2 := [vd w.d, vs s, vd rd, vi ((p + (f p).size : Nat) : Int), some (.r 0), vd (f p).d]) (h2 := [.lst ((fd ++ [f p]).map Tok.d)]) (by simp only [runF, exSs, exS, evE, evEs, evO, evT, evR, evRs, bnd, onE, onN, F.bind, op2, rdV, rdVs, lfD, lf, bopD, cmpD, bltD, truD, dats, dats0, isScal, anyR, asg, asgs, endD, sets, noEx, isOwn, add_ii, sub_ii, lt_ii, gt_ii, le_ii, isD, Option.map_some, Option.map_none, Option.bind_some, Option.bind_none, Option.map, Option.bind, List.getD_cons_zero, List.getD_cons_succ, List.set_cons_zero, List.set_cons_succ, List.length_cons, List.length_nil, List.map_cons, List.map_nil, List.cons_append, List.nil_append, List.replicate, Nat.reduceAdd, Nat.reduceSub, Nat.reduceLT, Nat.reduceLeDiff, Nat.reduceBEq, Nat.beq, Nat.ble, if_true, if_false, ite_true, ite_false, reduceIte, Bool.not_true, Bool.not_false, Bool.or_true, Bool.true_or, Bool.false_or, Bool.or_false, List.getElem?_cons_zero, List.getElem?_cons_succ, t_tokens_of_0, len_str (show s.length ≤ 1000 by omega), hd]) ?_, q, toks, if_pos hp, List.append_assoc]
      · rfl
      · have ee : exS gc (callF gc T wn (k + 1)) wn (.put 5 (.ex (.ite (.val (.cmp .eq (.sub (.var 0) (.cst (.int 0))) (.cst (.str [102, 101, 119, 101, 115, 116])))) (.cal 13 (.cons (.var 0) (.cons (.var 1) (.cons (.var 3) (.cons (.var 2) .nil))))) (.cal 14 (.cons (.var 0) (.cons (.var 1) (.cons (.var 3) .nil))))))) [vd w.d, vs s, vd rd, vi p, some (.r 0), x5] [.lst (fd.map Tok.d)] = .ret (.nx [vd w.d, vs s, vd rd, vi p, some (.r 0), vd (f p).d] [.lst (fd.map Tok.d)]) := by
          rw [exS, evR, hev]
          rfl
        show onN (exS gc (callF gc T wn (k + 1)) wn _ _ _) _ = _
        rw [ee]
        simp only [runF, exSs, exS, evE, evEs, evO, evT, evR, evRs, bnd, onE, onN, F.bind, op2, rdV, rdVs, lfD, lf, bopD, cmpD, bltD, truD, dats, dats0, isScal, anyR, asg, asgs, endD, sets, noEx, isOwn, add_ii, sub_ii, lt_ii, gt_ii, le_ii, isD, Option.map_some, Option.map_none, Option.bind_some, Option.bind_none, Option.map, Option.bind, List.getD_cons_zero, List.getD_cons_succ, List.set_cons_zero, List.set_cons_succ, List.length_cons, List.length_nil, List.map_cons, List.map_nil, List.cons_append, List.nil_append, List.replicate, Nat.reduceAdd, Nat.reduceSub, Nat.reduceLT, Nat.reduceLeDiff, Nat.reduceBEq, Nat.beq, Nat.ble, if_true, if_false, ite_true, ite_false, reduceIte, Bool.not_true, Bool.not_false, Bool.or_true, Bool.true_or, Bool.false_or, Bool.or_false, List.getElem?_cons_zero, List.getElem?_cons_succ, esz, hb, List.map_append, Int.natCast_add]
    · have hd : decide ((p : Int) < (s.length : Int)) = false := decide_eq_false (by omega)
      refine ⟨vi p, x5, ?_⟩
      rw [whl_stop (by simp only [runF, exSs, exS, evE, evEs, evO, evT, evR, evRs, bnd, onE, onN, F.bind, op2, rdV, rdVs, lfD, lf, bopD, cmpD, bltD, truD, dats, dats0, isScal, anyR, asg, asgs, endD, sets, noEx, isOwn, add_ii, sub_ii, lt_ii, gt_ii, le_ii, isD, Option.map_some, Option.map_none, Option.bind_some, Option.bind_none, Option.map, Option.bind, List.getD_cons_zero, List.getD_cons_succ, List.set_cons_zero, List.set_cons_succ, List.length_cons, List.length_nil, List.map_cons, List.map_nil, List.cons_append, List.nil_append, List.replicate, Nat.reduceAdd, Nat.reduceSub, Nat.reduceLT, Nat.reduceLeDiff, Nat.reduceBEq, Nat.beq, Nat.ble, if_true, if_false, ite_true, ite_false, reduceIte, Bool.not_true, Bool.not_false, Bool.or_true, Bool.true_or, Bool.false_or, Bool.or_false, List.getElem?_cons_zero, List.getElem?_cons_succ, t_tokens_of_0, len_str (show s.length ≤ 1000 by omega), hd]), toks, if_neg hp, List.append_nil]
theorem tokF_ok {w : Way} (hw : w.Ok) {s : List Nat} (hfew : ∀ p, p < s.length → (fewAt w s (rl w s s.length) p).Ok) {p : Nat} (hp : p < s.length) : (tokF w s p).Ok := by
  unfold tokF
  split
  · exact hfew p hp
  · exact tokAt_ok hw s p
theorem fewAt_ok {w : Way} (hw : w.Ok) (s R : List Nat) (p : Nat) : (fewAt w s R p).Ok := by
  unfold fewAt
  suffices H : ∀ (l : List (Nat × Nat)) (t : Tok), (∀ c ∈ l, 1 ≤ c.1 ∧ c.1 ≤ 4 ∧ c.2 ≤ 4) → t.Ok → (l.foldl (fewStep w R p) t).Ok by
    refine H _ _ (fun c hc => ?_) trivial
    obtain ⟨i, h1, h2, h3, h4⟩ := cps_mem hc
    have := lenAt_le s (1 + i) (cap w (1 + i)) p
    have := cap_le hw (1 + i)
    have := hw.w2
    omega
  intro l
  induction l with
  | nil => intro t _ ht; exact ht
  | cons c l ih =>
    intro t hc ht
    rw [List.foldl_cons]
    exact ih _ (fun d hd => hc d (List.mem_cons_of_mem _ hd)) (fewStep_ok ht hw (hc c List.mem_cons_self))
theorem tokF_ok' {w : Way} (hw : w.Ok) (s : List Nat) (p : Nat) : (tokF w s p).Ok := by
  unfold tokF
  split
  · exact fewAt_ok hw s _ p
  · exact tokAt_ok hw s p
section
variable [Has T 4 b_length_at] [Has T 5 b_copies_of] [Has T 6 b_best_of] [Has T 10 b_cover_of] [Has T 11 b_leaves_out] [Has T 14 b_token_at] [Has T 12 b_size_of] [Has T 15 b_rests_of] [Has T 13 b_fewest_at] [Has T 16 b_tokens_of]
theorem c_tokens_of {w : Way} (hw : w.Ok) {s : List Nat} (hs : AB s) (hl : s.length ≤ 100) (hn : 200 ≤ wn) :
    callF gc T wn (k + 7) 16 [w.d, .str s] = ok (.tup ((tokens w s).map Tok.d)) := by
  rw [call_has b_tokens_of]
  have e0 := sw_0 w
  have e1 := eq_fewest w.look
  have e2 := c_rests_of (gc := gc) (T := T) (wn := wn) (k := k + 3) hw hs hl (by omega)
  have hR := rl_len w s s.length
  by_cases hf : w.look = .fewest
  · rw [decide_eq_true hf] at e1
    obtain ⟨p', x5', q⟩ := tok_loop (gc := gc) (T := T) (wn := wn) (k := k + 5) (w := w) hl (f := tokF w s) (rd := .lst (nls (rl w s s.length))) (fun p hp => ⟨tokF_ok' hw s p, fun x5 h => by
      have e3 := (c_fewest_at (gc := gc) (T := T) (wn := wn) (k := k + 3) hw hs hl p hp (rl w s s.length) hR (by omega)).1
      have e4 : tokF w s p = fewAt w s (rl w s s.length) p := if_pos hf
      rw [e4]
      simp only [runF, exSs, exS, evE, evEs, evO, evT, evR, evRs, bnd, onE, onN, F.bind, op2, rdV, rdVs, lfD, lf, bopD, cmpD, bltD, truD, dats, dats0, isScal, anyR, asg, asgs, endD, sets, noEx, isOwn, add_ii, sub_ii, lt_ii, gt_ii, le_ii, isD, Option.map_some, Option.map_none, Option.bind_some, Option.bind_none, Option.map, Option.bind, List.getD_cons_zero, List.getD_cons_succ, List.set_cons_zero, List.set_cons_succ, List.length_cons, List.length_nil, List.map_cons, List.map_nil, List.cons_append, List.nil_append, List.replicate, Nat.reduceAdd, Nat.reduceSub, Nat.reduceLT, Nat.reduceLeDiff, Nat.reduceBEq, Nat.beq, Nat.ble, if_true, if_false, ite_true, ite_false, reduceIte, Bool.not_true, Bool.not_false, Bool.or_true, Bool.true_or, Bool.false_or, Bool.or_false, List.getElem?_cons_zero, List.getElem?_cons_succ, e0, e1, e3]⟩) s.length 0 wn [] none (by omega) (by omega) (by simp only [List.length_nil]; omega)
    rw [List.nil_append] at q
    simp only [vd, vs, vi, List.map_nil, Int.cast_ofNat_Int] at q
    simp only [runF, exSs, exS, evE, evEs, evO, evT, evR, evRs, bnd, onE, onN, F.bind, op2, rdV, rdVs, lfD, lf, bopD, cmpD, bltD, truD, dats, dats0, isScal, anyR, asg, asgs, endD, sets, noEx, isOwn, add_ii, sub_ii, lt_ii, gt_ii, le_ii, isD, Option.map_some, Option.map_none, Option.bind_some, Option.bind_none, Option.map, Option.bind, List.getD_cons_zero, List.getD_cons_succ, List.set_cons_zero, List.set_cons_succ, List.length_cons, List.length_nil, List.map_cons, List.map_nil, List.cons_append, List.nil_append, List.replicate, Nat.reduceAdd, Nat.reduceSub, Nat.reduceLT, Nat.reduceLeDiff, Nat.reduceBEq, Nat.beq, Nat.ble, if_true, if_false, ite_true, ite_false, reduceIte, Bool.not_true, Bool.not_false, Bool.or_true, Bool.true_or, Bool.false_or, Bool.or_false, List.getElem?_cons_zero, List.getElem?_cons_succ, b_tokens_of, e0, e1, e2, q, tupleD]
    rfl
  · rw [decide_eq_false hf] at e1
    obtain ⟨p', x5', q⟩ := tok_loop (gc := gc) (T := T) (wn := wn) (k := k + 5) (w := w) hl (f := tokF w s) (rd := .lst []) (fun p hp => ⟨tokF_ok' hw s p, fun x5 h => by
      have e3 := c_token_at (gc := gc) (T := T) (wn := wn) (k := k) hw hs (by omega) p hp (by omega)
      have e4 : tokF w s p = tokAt w s p := if_neg hf
      rw [e4]
      simp only [runF, exSs, exS, evE, evEs, evO, evT, evR, evRs, bnd, onE, onN, F.bind, op2, rdV, rdVs, lfD, lf, bopD, cmpD, bltD, truD, dats, dats0, isScal, anyR, asg, asgs, endD, sets, noEx, isOwn, add_ii, sub_ii, lt_ii, gt_ii, le_ii, isD, Option.map_some, Option.map_none, Option.bind_some, Option.bind_none, Option.map, Option.bind, List.getD_cons_zero, List.getD_cons_succ, List.set_cons_zero, List.set_cons_succ, List.length_cons, List.length_nil, List.map_cons, List.map_nil, List.cons_append, List.nil_append, List.replicate, Nat.reduceAdd, Nat.reduceSub, Nat.reduceLT, Nat.reduceLeDiff, Nat.reduceBEq, Nat.beq, Nat.ble, if_true, if_false, ite_true, ite_false, reduceIte, Bool.not_true, Bool.not_false, Bool.or_true, Bool.true_or, Bool.false_or, Bool.or_false, List.getElem?_cons_zero, List.getElem?_cons_succ, e0, e1, e3]⟩) s.length 0 wn [] none (by omega) (by omega) (by simp only [List.length_nil]; omega)
    rw [List.nil_append] at q
    simp only [vd, vs, vi, List.map_nil, Int.cast_ofNat_Int] at q
    simp only [runF, exSs, exS, evE, evEs, evO, evT, evR, evRs, bnd, onE, onN, F.bind, op2, rdV, rdVs, lfD, lf, bopD, cmpD, bltD, truD, dats, dats0, isScal, anyR, asg, asgs, endD, sets, noEx, isOwn, add_ii, sub_ii, lt_ii, gt_ii, le_ii, isD, Option.map_some, Option.map_none, Option.bind_some, Option.bind_none, Option.map, Option.bind, List.getD_cons_zero, List.getD_cons_succ, List.set_cons_zero, List.set_cons_succ, List.length_cons, List.length_nil, List.map_cons, List.map_nil, List.cons_append, List.nil_append, List.replicate, Nat.reduceAdd, Nat.reduceSub, Nat.reduceLT, Nat.reduceLeDiff, Nat.reduceBEq, Nat.beq, Nat.ble, if_true, if_false, ite_true, ite_false, reduceIte, Bool.not_true, Bool.not_false, Bool.or_true, Bool.true_or, Bool.false_or, Bool.or_false, List.getElem?_cons_zero, List.getElem?_cons_succ, b_tokens_of, e0, e1, q, tupleD]
    rfl
section
variable [Has T 1 b_is_between] [Has T 0 b_is_word] [Has T 2 b_is_way] [Has T 9 b_check_way] [HasG gc 1 LOOKSd] [HasG gc 0 TIESd] [Has T 3 b_is_text] [Has T 8 b_check_text]
theorem c_write [Has T 32 b_write] {w : Way} (hw : w.Ok) {s : List Nat} (hs : AB s) (hl : s.length ≤ 24) (hn : 200 ≤ wn) :
    callF gc T wn (k + 8) 32 [w.d, .str s] = ok (.tup ((tokens w s).map Tok.d)) := by
  rw [call_has b_write]
  have e1 := c_check_way (gc := gc) (T := T) (wn := wn) (k := k + 4) hw
  have e2 := c_check_text (gc := gc) (T := T) (wn := wn) (k := k + 5) hs hl
  have e3 := c_tokens_of (gc := gc) (T := T) (wn := wn) (k := k) hw hs (by omega) hn
  simp only [runF, exSs, exS, evE, evEs, evO, evT, evR, evRs, bnd, onE, onN, F.bind, op2, rdV, rdVs, lfD, lf, bopD, cmpD, bltD, truD, dats, dats0, isScal, anyR, asg, asgs, endD, sets, noEx, isOwn, add_ii, sub_ii, lt_ii, gt_ii, le_ii, isD, Option.map_some, Option.map_none, Option.bind_some, Option.bind_none, Option.map, Option.bind, List.getD_cons_zero, List.getD_cons_succ, List.set_cons_zero, List.set_cons_succ, List.length_cons, List.length_nil, List.map_cons, List.map_nil, List.cons_append, List.nil_append, List.replicate, Nat.reduceAdd, Nat.reduceSub, Nat.reduceLT, Nat.reduceLeDiff, Nat.reduceBEq, Nat.beq, Nat.ble, if_true, if_false, ite_true, ite_false, reduceIte, Bool.not_true, Bool.not_false, Bool.or_true, Bool.true_or, Bool.false_or, Bool.or_false, List.getElem?_cons_zero, List.getElem?_cons_succ, b_write, e1, e2, e3]
theorem c_least_number [Has T 35 b_least_number] {w : Way} (hw : w.Ok) {s : List Nat} (hs : AB s) (hl : s.length ≤ 24) (hn : 200 ≤ wn) :
    callF gc T wn (k + 8) 35 [w.d, .str s] = ok (.int ((rl w s s.length).headD 0)) := by
  rw [call_has b_least_number]
  have e1 := c_check_way (gc := gc) (T := T) (wn := wn) (k := k + 4) hw
  have e2 := c_check_text (gc := gc) (T := T) (wn := wn) (k := k + 5) hs hl
  have e3 := c_rests_of (gc := gc) (T := T) (wn := wn) (k := k + 4) hw hs (by omega) (by omega)
  have e4 := at_nls (l := rl w s s.length) (z := 0) (n := 0) rfl (by rw [rl_len]; omega)
  rw [show (rl w s s.length).getD 0 0 = (rl w s s.length).headD 0 by cases rl w s s.length <;> rfl] at e4
  simp only [runF, exSs, exS, evE, evEs, evO, evT, evR, evRs, bnd, onE, onN, F.bind, op2, rdV, rdVs, lfD, lf, bopD, cmpD, bltD, truD, dats, dats0, isScal, anyR, asg, asgs, endD, sets, noEx, isOwn, add_ii, sub_ii, lt_ii, gt_ii, le_ii, isD, Option.map_some, Option.map_none, Option.bind_some, Option.bind_none, Option.map, Option.bind, List.getD_cons_zero, List.getD_cons_succ, List.set_cons_zero, List.set_cons_succ, List.length_cons, List.length_nil, List.map_cons, List.map_nil, List.cons_append, List.nil_append, List.replicate, Nat.reduceAdd, Nat.reduceSub, Nat.reduceLT, Nat.reduceLeDiff, Nat.reduceBEq, Nat.beq, Nat.ble, if_true, if_false, ite_true, ite_false, reduceIte, Bool.not_true, Bool.not_false, Bool.or_true, Bool.true_or, Bool.false_or, Bool.or_false, List.getElem?_cons_zero, List.getElem?_cons_succ, b_least_number, e1, e2, e3, e4]
inductive Sight where | lengths | number | tokens
def sightS : Sight → List Nat
  | .lengths => [108, 101, 110, 103, 116, 104, 115]
  | .number => [110, 117, 109, 98, 101, 114]
  | .tokens => [116, 111, 107, 101, 110, 115]
def seenD (l : List Tok) : Sight → D
  | .lengths => .tup (nls (l.map Tok.size))
  | .number => .int l.length
  | .tokens => .tup (l.map Tok.d)
theorem c_seen_of [Has T 17 b_seen_of] {l : List Tok} (hok : ∀ t ∈ l, t.Ok) (hl : l.length ≤ 1000) (g : Sight) : callF gc T wn (k + 2) 17 [.tup (l.map Tok.d), .str (sightS g)] = ok (seenD l g) := by
  rw [call_has b_seen_of]
  cases g with
  | number =>
    have e1 : eqD (.str (sightS .number)) (.str [110, 117, 109, 98, 101, 114]) = some true := rfl
    have e2 : lenD [.tup (l.map Tok.d)] = some (.int l.length) := by
      show some (D.int ((l.map Tok.d).length : Nat)) = _
      rw [List.length_map]
    simp only [runF, exSs, exS, evE, evEs, evO, evT, evR, evRs, bnd, onE, onN, F.bind, op2, rdV, rdVs, lfD, lf, bopD, cmpD, bltD, truD, dats, dats0, isScal, anyR, asg, asgs, endD, sets, noEx, isOwn, add_ii, sub_ii, lt_ii, gt_ii, le_ii, isD, Option.map_some, Option.map_none, Option.bind_some, Option.bind_none, Option.map, Option.bind, List.getD_cons_zero, List.getD_cons_succ, List.set_cons_zero, List.set_cons_succ, List.length_cons, List.length_nil, List.map_cons, List.map_nil, List.cons_append, List.nil_append, List.replicate, Nat.reduceAdd, Nat.reduceSub, Nat.reduceLT, Nat.reduceLeDiff, Nat.reduceBEq, Nat.beq, Nat.ble, if_true, if_false, ite_true, ite_false, reduceIte, Bool.not_true, Bool.not_false, Bool.or_true, Bool.true_or, Bool.false_or, Bool.or_false, List.getElem?_cons_zero, List.getElem?_cons_succ, b_seen_of, e1, e2, seenD]
  | lengths =>
    have e1 : eqD (.str (sightS .lengths)) (.str [110, 117, 109, 98, 101, 114]) = some false := rfl
    have e2 : eqD (.str (sightS .lengths)) (.str [108, 101, 110, 103, 116, 104, 115]) = some true := rfl
    have e3 : evE gc (callF gc T wn (k + 1)) c_seen_of_1 [vd (.tup (l.map Tok.d)), vs (sightS .lengths), none] [] = ok (.d (.lst (l.map fun t => D.int t.size))) :=
      ev_cmp1 (enc := Tok.d) (fun t => D.int t.size) (ev_seq (d := .tup (l.map Tok.d)) (by simp only [runF, exSs, exS, evE, evEs, evO, evT, evR, evRs, bnd, onE, onN, F.bind, op2, rdV, rdVs, lfD, lf, bopD, cmpD, bltD, truD, dats, dats0, isScal, anyR, asg, asgs, endD, sets, noEx, isOwn, add_ii, sub_ii, lt_ii, gt_ii, le_ii, isD, Option.map_some, Option.map_none, Option.bind_some, Option.bind_none, Option.map, Option.bind, List.getD_cons_zero, List.getD_cons_succ, List.set_cons_zero, List.set_cons_succ, List.length_cons, List.length_nil, List.map_cons, List.map_nil, List.cons_append, List.nil_append, List.replicate, Nat.reduceAdd, Nat.reduceSub, Nat.reduceLT, Nat.reduceLeDiff, Nat.reduceBEq, Nat.beq, Nat.ble, if_true, if_false, ite_true, ite_false, reduceIte, Bool.not_true, Bool.not_false, Bool.or_true, Bool.true_or, Bool.false_or, Bool.or_false, List.getElem?_cons_zero, List.getElem?_cons_succ]) rfl) (by omega) fun t ht => ⟨_, rfl, by simp only [runF, exSs, exS, evE, evEs, evO, evT, evR, evRs, bnd, onE, onN, F.bind, op2, rdV, rdVs, lfD, lf, bopD, cmpD, bltD, truD, dats, dats0, isScal, anyR, asg, asgs, endD, sets, noEx, isOwn, add_ii, sub_ii, lt_ii, gt_ii, le_ii, isD, Option.map_some, Option.map_none, Option.bind_some, Option.bind_none, Option.map, Option.bind, List.getD_cons_zero, List.getD_cons_succ, List.set_cons_zero, List.set_cons_succ, List.length_cons, List.length_nil, List.map_cons, List.map_nil, List.cons_append, List.nil_append, List.replicate, Nat.reduceAdd, Nat.reduceSub, Nat.reduceLT, Nat.reduceLeDiff, Nat.reduceBEq, Nat.beq, Nat.ble, if_true, if_false, ite_true, ite_false, reduceIte, Bool.not_true, Bool.not_false, Bool.or_true, Bool.true_or, Bool.false_or, Bool.or_false, List.getElem?_cons_zero, List.getElem?_cons_succ, e_seen_of_0, wip, c_size_of t (hok t ht)]⟩
    simp only [vd, vs] at e3
    simp only [runF, exSs, exS, evE, evEs, evO, evT, evR, evRs, bnd, onE, onN, F.bind, op2, rdV, rdVs, lfD, lf, bopD, cmpD, bltD, truD, dats, dats0, isScal, anyR, asg, asgs, endD, sets, noEx, isOwn, add_ii, sub_ii, lt_ii, gt_ii, le_ii, isD, Option.map_some, Option.map_none, Option.bind_some, Option.bind_none, Option.map, Option.bind, List.getD_cons_zero, List.getD_cons_succ, List.set_cons_zero, List.set_cons_succ, List.length_cons, List.length_nil, List.map_cons, List.map_nil, List.cons_append, List.nil_append, List.replicate, Nat.reduceAdd, Nat.reduceSub, Nat.reduceLT, Nat.reduceLeDiff, Nat.reduceBEq, Nat.beq, Nat.ble, if_true, if_false, ite_true, ite_false, reduceIte, Bool.not_true, Bool.not_false, Bool.or_true, Bool.true_or, Bool.false_or, Bool.or_false, List.getElem?_cons_zero, List.getElem?_cons_succ, b_seen_of, e1, e2, e3, seenD, tupleD]
    unfold nls
    rw [List.map_map]
    rfl
  | tokens =>
    have e1 : eqD (.str (sightS .tokens)) (.str [110, 117, 109, 98, 101, 114]) = some false := rfl
    have e2 : eqD (.str (sightS .tokens)) (.str [108, 101, 110, 103, 116, 104, 115]) = some false := rfl
    simp only [runF, exSs, exS, evE, evEs, evO, evT, evR, evRs, bnd, onE, onN, F.bind, op2, rdV, rdVs, lfD, lf, bopD, cmpD, bltD, truD, dats, dats0, isScal, anyR, asg, asgs, endD, sets, noEx, isOwn, add_ii, sub_ii, lt_ii, gt_ii, le_ii, isD, Option.map_some, Option.map_none, Option.bind_some, Option.bind_none, Option.map, Option.bind, List.getD_cons_zero, List.getD_cons_succ, List.set_cons_zero, List.set_cons_succ, List.length_cons, List.length_nil, List.map_cons, List.map_nil, List.cons_append, List.nil_append, List.replicate, Nat.reduceAdd, Nat.reduceSub, Nat.reduceLT, Nat.reduceLeDiff, Nat.reduceBEq, Nat.beq, Nat.ble, if_true, if_false, ite_true, ite_false, reduceIte, Bool.not_true, Bool.not_false, Bool.or_true, Bool.true_or, Bool.false_or, Bool.or_false, List.getElem?_cons_zero, List.getElem?_cons_succ, b_seen_of, e1, e2, seenD]
theorem toks_ok {f : Nat → Tok} (hf : ∀ p, (f p).Ok) (n : Nat) : ∀ m p, ∀ t ∈ toks f n m p, t.Ok
  | 0, p, t, h => by cases h
  | m + 1, p, t, h => by
    rw [toks] at h
    split at h
    · rcases List.mem_cons.mp h with rfl | h
      · exact hf p
      · exact toks_ok hf n m _ t h
    · cases h
theorem tokens_ok {w : Way} (hw : w.Ok) (s : List Nat) : ∀ t ∈ tokens w s, t.Ok := toks_ok (tokF_ok' hw s) _ _ _
theorem c_check_sight [Has T 18 b_check_sight] [hS : HasG gc 2 SIGHTSd] (g : Sight) : callF gc T wn (k + 2) 18 [.str (sightS g)] = ok .non := by
  rw [call_has b_check_sight]
  have h1 : isinD (.str (sightS g)) SIGHTSd = some true := by cases g <;> rfl
  simp only [runF, exSs, exS, evE, evEs, evO, evT, evR, evRs, bnd, onE, onN, F.bind, op2, rdV, rdVs, lfD, lf, bopD, cmpD, bltD, truD, dats, dats0, isScal, anyR, asg, asgs, endD, sets, noEx, isOwn, add_ii, sub_ii, lt_ii, gt_ii, le_ii, isD, Option.map_some, Option.map_none, Option.bind_some, Option.bind_none, Option.map, Option.bind, List.getD_cons_zero, List.getD_cons_succ, List.set_cons_zero, List.set_cons_succ, List.length_cons, List.length_nil, List.map_cons, List.map_nil, List.cons_append, List.nil_append, List.replicate, Nat.reduceAdd, Nat.reduceSub, Nat.reduceLT, Nat.reduceLeDiff, Nat.reduceBEq, Nat.beq, Nat.ble, if_true, if_false, ite_true, ite_false, reduceIte, Bool.not_true, Bool.not_false, Bool.or_true, Bool.true_or, Bool.false_or, Bool.or_false, List.getElem?_cons_zero, List.getElem?_cons_succ, b_check_sight, hS.h, c_is_word _ _ _ h1]
theorem c_see [Has T 34 b_see] [Has T 17 b_seen_of] [Has T 18 b_check_sight] [HasG gc 2 SIGHTSd] {w : Way} (hw : w.Ok) {s : List Nat} (hs : AB s) (hl : s.length ≤ 24) (g : Sight) (hn : 200 ≤ wn) :
    callF gc T wn (k + 8) 34 [w.d, .str s, .str (sightS g)] = ok (seenD (tokens w s) g) := by
  rw [call_has b_see]
  have e1 := c_check_way (gc := gc) (T := T) (wn := wn) (k := k + 4) hw
  have e2 := c_check_text (gc := gc) (T := T) (wn := wn) (k := k + 5) hs hl
  have e3 := c_tokens_of (gc := gc) (T := T) (wn := wn) (k := k) hw hs (by omega) hn
  have e4 := c_check_sight (gc := gc) (T := T) (wn := wn) (k := k + 5) g
  have e5 := c_seen_of (gc := gc) (T := T) (wn := wn) (k := k + 5) (tokens_ok hw s) (by have := toks_len (tokF w s) s.length s.length 0; show (toks _ _ _ _).length ≤ 1000; omega) g
  simp only [runF, exSs, exS, evE, evEs, evO, evT, evR, evRs, bnd, onE, onN, F.bind, op2, rdV, rdVs, lfD, lf, bopD, cmpD, bltD, truD, dats, dats0, isScal, anyR, asg, asgs, endD, sets, noEx, isOwn, add_ii, sub_ii, lt_ii, gt_ii, le_ii, isD, Option.map_some, Option.map_none, Option.bind_some, Option.bind_none, Option.map, Option.bind, List.getD_cons_zero, List.getD_cons_succ, List.set_cons_zero, List.set_cons_succ, List.length_cons, List.length_nil, List.map_cons, List.map_nil, List.cons_append, List.nil_append, List.replicate, Nat.reduceAdd, Nat.reduceSub, Nat.reduceLT, Nat.reduceLeDiff, Nat.reduceBEq, Nat.beq, Nat.ble, if_true, if_false, ite_true, ite_false, reduceIte, Bool.not_true, Bool.not_false, Bool.or_true, Bool.true_or, Bool.false_or, Bool.or_false, List.getElem?_cons_zero, List.getElem?_cons_succ, b_see, e1, e2, e3, e4, e5]
end
end
end
end Bk
/-! BkV: the law's drawn ways and texts. -/
namespace Bk
def b__law_rule : Fn := ⟨3, 7, (.cons (.put 3 (.ex (.sub (.var 2) (.cal 19 (.cons (.var 0) (.cons (.var 1) (.cons (.blt .len (.cons (.var 2) .nil)) .nil))))))) (.cons (.put 4 (.ex (.bop .add (.cst (.int 2)) (.cal 19 (.cons (.var 0) (.cons (.var 1) (.cons (.cst (.int 2)) .nil))))))) (.cons (.put 5 (.ex (.blt .min (.cons (.cst (.int 4)) (.cons (.bop .add (.var 4) (.cal 19 (.cons (.var 0) (.cons (.var 1) (.cons (.cst (.int 3)) .nil))))) .nil))))) (.cons (.put 6 (.ex (.sub (.tup (.cons (.cst (.str [110, 101, 97, 114])) (.cons (.cst (.str [102, 97, 114])) .nil))) (.cal 19 (.cons (.var 0) (.cons (.var 1) (.cons (.cst (.int 2)) .nil))))))) (.cons (.ret (.tup (.cons (.var 3) (.cons (.bop .add (.cst (.int 2)) (.cal 19 (.cons (.var 0) (.cons (.var 1) (.cons (.cst (.int 3)) .nil))))) (.cons (.var 4) (.cons (.var 5) (.cons (.ite (.val (.cmp .gt (.cal 19 (.cons (.var 0) (.cons (.var 1) (.cons (.cst (.int 3)) .nil)))) (.cst (.int 0)))) (.cst (.int 1)) (.cst (.int 0))) (.cons (.var 6) .nil)))))))) .nil)))))⟩
def s__law_line_0 : Ss := (.cons (.put 5 (.ex (.cal 19 (.cons (.var 0) (.cons (.var 1) (.cons (.cst (.int 6)) .nil)))))) (.cons (.ife (.or (.val (.cmp .eq (.var 5) (.cst (.int 0)))) (.val (.cmp .gt (.var 5) (.blt .len (.cons (.var 3) .nil))))) (.cons (.put 3 (.ex (.bop .add (.var 3) (.sub (.cst (.str [97, 98])) (.cal 19 (.cons (.var 0) (.cons (.var 1) (.cons (.cst (.int 2)) .nil)))))))) .nil) (.cons (.put 3 (.ex (.bop .add (.var 3) (.sub (.var 3) (.bop .sub (.blt .len (.cons (.var 3) .nil)) (.var 5)))))) .nil)) .nil))
def b__law_line : Fn := ⟨3, 6, (.cons (.put 3 (.ex (.cst (.str [])))) (.cons (.for_ (.nm 4) (.rg1 (.cal 19 (.cons (.var 0) (.cons (.var 1) (.cons (.bop .add (.var 2) (.cst (.int 1))) .nil))))) s__law_line_0) (.cons (.ret (.var 3)) .nil)))⟩
section
variable {gc : Gc} {T : Tab} {wn k : Nat}
theorem bind_draw {α β : Type} (n : Nat) (f : Nat → F α) (g : α → F β) : (F.draw n f).bind g = .draw n fun r => (f r).bind g := rfl
theorem all_draw {α : Type} {P : α → Prop} {n : Nat} {f : Nat → F α} : (F.draw n f).All P ↔ ∀ r, r < n → (f r).All P := Iff.rfl
abbrev WORDSd : D := .tup [.str [110, 111, 119], .str [110, 101, 120, 116], .str [116, 119, 111], .str [102, 101, 119, 101, 115, 116]]
def lkOf : Nat → Look
  | 0 => .now
  | 1 => .next
  | 2 => .two
  | _ => .fewest
theorem sub_words {r : Nat} (h : r < 4) : subD WORDSd (.int r) = some (.str (lookS (lkOf r))) := by
  match r, h with
  | 0, _ => rfl
  | 1, _ => rfl
  | 2, _ => rfl
  | 3, _ => rfl
theorem sub_ties {r : Nat} (h : r < 2) : subD (.tup [.str [110, 101, 97, 114], .str [102, 97, 114]]) (.int r) = some (.str (tieS (decide (r = 1)))) := by
  match r, h with
  | 0, _ => rfl
  | 1, _ => rfl
theorem sub_ab {r : Nat} (h : r < 2) : subD (.str [97, 98]) (.int r) = some (.str [97 + r]) := by
  match r, h with
  | 0, _ => rfl
  | 1, _ => rfl
theorem c_rule [HasD T 19] [Has T 23 b__law_rule] : (callF gc T wn (k + 2) 23 [.opq 0, .opq 1, WORDSd]).All fun r => ∃ w : Way, w.Ok ∧ r = .ok w.d := by
  rw [call_has b__law_rule]
  have d4 := call_drw (gc := gc) (T := T) (wn := wn) (k := k) (i := 19) 4 (by decide)
  have d2 := call_drw (gc := gc) (T := T) (wn := wn) (k := k) (i := 19) 2 (by decide)
  have d3 := call_drw (gc := gc) (T := T) (wn := wn) (k := k) (i := 19) 3 (by decide)
  have l4 : lenD [WORDSd] = some (.int 4) := rfl
  simp only [runF, exSs, exS, evE, evEs, evO, evT, evR, evRs, bnd, onE, onN, F.bind, op2, rdV, rdVs, lfD, lf, bopD, cmpD, bltD, truD, dats, dats0, isScal, anyR, asg, asgs, endD, sets, noEx, isOwn, add_ii, sub_ii, lt_ii, gt_ii, le_ii, isD, Option.map_some, Option.map_none, Option.bind_some, Option.bind_none, Option.map, Option.bind, List.getD_cons_zero, List.getD_cons_succ, List.set_cons_zero, List.set_cons_succ, List.length_cons, List.length_nil, List.map_cons, List.map_nil, List.cons_append, List.nil_append, List.replicate, Nat.reduceAdd, Nat.reduceSub, Nat.reduceLT, Nat.reduceLeDiff, Nat.reduceBEq, Nat.beq, Nat.ble, if_true, if_false, ite_true, ite_false, reduceIte, Bool.not_true, Bool.not_false, Bool.or_true, Bool.true_or, Bool.false_or, Bool.or_false, List.getElem?_cons_zero, List.getElem?_cons_succ, b__law_rule, l4, d4, bind_draw]
  refine all_draw.mpr fun r1 h1 => ?_
  have h1 : r1 < 4 := h1
  simp only [runF, exSs, exS, evE, evEs, evO, evT, evR, evRs, bnd, onE, onN, F.bind, op2, rdV, rdVs, lfD, lf, bopD, cmpD, bltD, truD, dats, dats0, isScal, anyR, asg, asgs, endD, sets, noEx, isOwn, add_ii, sub_ii, lt_ii, gt_ii, le_ii, isD, Option.map_some, Option.map_none, Option.bind_some, Option.bind_none, Option.map, Option.bind, List.getD_cons_zero, List.getD_cons_succ, List.set_cons_zero, List.set_cons_succ, List.length_cons, List.length_nil, List.map_cons, List.map_nil, List.cons_append, List.nil_append, List.replicate, Nat.reduceAdd, Nat.reduceSub, Nat.reduceLT, Nat.reduceLeDiff, Nat.reduceBEq, Nat.beq, Nat.ble, if_true, if_false, ite_true, ite_false, reduceIte, Bool.not_true, Bool.not_false, Bool.or_true, Bool.true_or, Bool.false_or, Bool.or_false, List.getElem?_cons_zero, List.getElem?_cons_succ, sub_words h1, d2, bind_draw]
  refine all_draw.mpr fun r2 h2 => ?_
  have h2 : r2 < 2 := h2
  simp only [runF, exSs, exS, evE, evEs, evO, evT, evR, evRs, bnd, onE, onN, F.bind, op2, rdV, rdVs, lfD, lf, bopD, cmpD, bltD, truD, dats, dats0, isScal, anyR, asg, asgs, endD, sets, noEx, isOwn, add_ii, sub_ii, lt_ii, gt_ii, le_ii, isD, Option.map_some, Option.map_none, Option.bind_some, Option.bind_none, Option.map, Option.bind, List.getD_cons_zero, List.getD_cons_succ, List.set_cons_zero, List.set_cons_succ, List.length_cons, List.length_nil, List.map_cons, List.map_nil, List.cons_append, List.nil_append, List.replicate, Nat.reduceAdd, Nat.reduceSub, Nat.reduceLT, Nat.reduceLeDiff, Nat.reduceBEq, Nat.beq, Nat.ble, if_true, if_false, ite_true, ite_false, reduceIte, Bool.not_true, Bool.not_false, Bool.or_true, Bool.true_or, Bool.false_or, Bool.or_false, List.getElem?_cons_zero, List.getElem?_cons_succ, d3, bind_draw]
  refine all_draw.mpr fun r3 h3 => ?_
  have h3 : r3 < 3 := h3
  have m : minD [.int 4, .int (2 + (r2 : Int) + (r3 : Int))] = some (.int (min 4 (2 + r2 + r3) : Nat)) := by
    rw [show (2 : Int) + (r2 : Int) + (r3 : Int) = ((2 + r2 + r3 : Nat) : Int) by omega]
    exact min_two 4 (2 + r2 + r3)
  simp only [runF, exSs, exS, evE, evEs, evO, evT, evR, evRs, bnd, onE, onN, F.bind, op2, rdV, rdVs, lfD, lf, bopD, cmpD, bltD, truD, dats, dats0, isScal, anyR, asg, asgs, endD, sets, noEx, isOwn, add_ii, sub_ii, lt_ii, gt_ii, le_ii, isD, Option.map_some, Option.map_none, Option.bind_some, Option.bind_none, Option.map, Option.bind, List.getD_cons_zero, List.getD_cons_succ, List.set_cons_zero, List.set_cons_succ, List.length_cons, List.length_nil, List.map_cons, List.map_nil, List.cons_append, List.nil_append, List.replicate, Nat.reduceAdd, Nat.reduceSub, Nat.reduceLT, Nat.reduceLeDiff, Nat.reduceBEq, Nat.beq, Nat.ble, if_true, if_false, ite_true, ite_false, reduceIte, Bool.not_true, Bool.not_false, Bool.or_true, Bool.true_or, Bool.false_or, Bool.or_false, List.getElem?_cons_zero, List.getElem?_cons_succ, m, d2, bind_draw]
  refine all_draw.mpr fun r4 h4 => ?_
  have h4 : r4 < 2 := h4
  simp only [runF, exSs, exS, evE, evEs, evO, evT, evR, evRs, bnd, onE, onN, F.bind, op2, rdV, rdVs, lfD, lf, bopD, cmpD, bltD, truD, dats, dats0, isScal, anyR, asg, asgs, endD, sets, noEx, isOwn, add_ii, sub_ii, lt_ii, gt_ii, le_ii, isD, Option.map_some, Option.map_none, Option.bind_some, Option.bind_none, Option.map, Option.bind, List.getD_cons_zero, List.getD_cons_succ, List.set_cons_zero, List.set_cons_succ, List.length_cons, List.length_nil, List.map_cons, List.map_nil, List.cons_append, List.nil_append, List.replicate, Nat.reduceAdd, Nat.reduceSub, Nat.reduceLT, Nat.reduceLeDiff, Nat.reduceBEq, Nat.beq, Nat.ble, if_true, if_false, ite_true, ite_false, reduceIte, Bool.not_true, Bool.not_false, Bool.or_true, Bool.true_or, Bool.false_or, Bool.or_false, List.getElem?_cons_zero, List.getElem?_cons_succ, sub_ties h4, d3, bind_draw]
  refine all_draw.mpr fun r5 h5 => ?_
  have h5 : r5 < 3 := h5
  refine all_draw.mpr fun r6 h6 => ?_
  have h6 : r6 < 3 := h6
  by_cases h7 : 0 < r6
  · have h8 : decide ((0 : Int) < (r6 : Int)) = true := decide_eq_true (by omega)
    simp only [runF, exSs, exS, evE, evEs, evO, evT, evR, evRs, bnd, onE, onN, F.bind, op2, rdV, rdVs, lfD, lf, bopD, cmpD, bltD, truD, dats, dats0, isScal, anyR, asg, asgs, endD, sets, noEx, isOwn, add_ii, sub_ii, lt_ii, gt_ii, le_ii, isD, Option.map_some, Option.map_none, Option.bind_some, Option.bind_none, Option.map, Option.bind, List.getD_cons_zero, List.getD_cons_succ, List.set_cons_zero, List.set_cons_succ, List.length_cons, List.length_nil, List.map_cons, List.map_nil, List.cons_append, List.nil_append, List.replicate, Nat.reduceAdd, Nat.reduceSub, Nat.reduceLT, Nat.reduceLeDiff, Nat.reduceBEq, Nat.beq, Nat.ble, if_true, if_false, ite_true, ite_false, reduceIte, Bool.not_true, Bool.not_false, Bool.or_true, Bool.true_or, Bool.false_or, Bool.or_false, List.getElem?_cons_zero, List.getElem?_cons_succ, h8]
    refine ⟨⟨lkOf r1, 2 + r5, 2 + r2, min 4 (2 + r2 + r3), 1, decide (r4 = 1)⟩, ⟨by show 2 ≤ 2 + r5; omega, by show 2 + r5 ≤ 4; omega, by show 2 ≤ 2 + r2; omega, by show 2 + r2 ≤ 3; omega, by show 2 + r2 ≤ min 4 (2 + r2 + r3); omega, by show min 4 (2 + r2 + r3) ≤ 4; omega, Nat.le_refl 1⟩, ?_⟩
    simp only [Way.d, Int.natCast_add, Int.cast_ofNat_Int]
  · have h8 : decide ((0 : Int) < (r6 : Int)) = false := decide_eq_false (by omega)
    simp only [runF, exSs, exS, evE, evEs, evO, evT, evR, evRs, bnd, onE, onN, F.bind, op2, rdV, rdVs, lfD, lf, bopD, cmpD, bltD, truD, dats, dats0, isScal, anyR, asg, asgs, endD, sets, noEx, isOwn, add_ii, sub_ii, lt_ii, gt_ii, le_ii, isD, Option.map_some, Option.map_none, Option.bind_some, Option.bind_none, Option.map, Option.bind, List.getD_cons_zero, List.getD_cons_succ, List.set_cons_zero, List.set_cons_succ, List.length_cons, List.length_nil, List.map_cons, List.map_nil, List.cons_append, List.nil_append, List.replicate, Nat.reduceAdd, Nat.reduceSub, Nat.reduceLT, Nat.reduceLeDiff, Nat.reduceBEq, Nat.beq, Nat.ble, if_true, if_false, ite_true, ite_false, reduceIte, Bool.not_true, Bool.not_false, Bool.or_true, Bool.true_or, Bool.false_or, Bool.or_false, List.getElem?_cons_zero, List.getElem?_cons_succ, h8]
    refine ⟨⟨lkOf r1, 2 + r5, 2 + r2, min 4 (2 + r2 + r3), 0, decide (r4 = 1)⟩, ⟨by show 2 ≤ 2 + r5; omega, by show 2 + r5 ≤ 4; omega, by show 2 ≤ 2 + r2; omega, by show 2 + r2 ≤ 3; omega, by show 2 + r2 ≤ min 4 (2 + r2 + r3); omega, by show min 4 (2 + r2 + r3) ≤ 4; omega, Nat.zero_le 1⟩, ?_⟩
    simp only [Way.d, Int.natCast_add, Int.cast_ofNat_Int]
theorem ab_snoc {s : List Nat} {c : Nat} (h : AB s) (hc : c = 97 ∨ c = 98) : AB (s ++ [c]) := fun x hx => by
  rcases List.mem_append.mp hx with hx | hx
  · exact h x hx
  · rw [List.mem_singleton.mp hx]; exact hc
theorem c_line [HasD T 19] [Has T 28 b__law_line] (m : Nat) (hm : m ≤ 100) : (callF gc T wn (k + 2) 28 [.opq 0, .opq 1, .int m]).All fun r => ∃ s : List Nat, AB s ∧ s.length ≤ m ∧ r = .ok (.str s) := by
  rw [call_has b__law_line]
  have d1 := call_drw (gc := gc) (T := T) (wn := wn) (k := k) (i := 19) ((m : Int) + 1) (by omega)
  have d6 := call_drw (gc := gc) (T := T) (wn := wn) (k := k) (i := 19) 6 (by decide)
  have d2 := call_drw (gc := gc) (T := T) (wn := wn) (k := k) (i := 19) 2 (by decide)
  have hi := ev_rg1_draw (gc := gc) (cl := callF gc T wn (k + 1)) (e := [vd (.opq 0), vd (.opq 1), vi m, vs [], none, none]) (h := []) (a := (.cal 19 (.cons (.var 0) (.cons (.var 1) (.cons (.bop .add (.var 2) (.cst (.int 1))) .nil))))) (n := ((m : Int) + 1).toNat) (f := fun r => (r : Int)) (by simp only [runF, exSs, exS, evE, evEs, evO, evT, evR, evRs, bnd, onE, onN, F.bind, op2, rdV, rdVs, lfD, lf, bopD, cmpD, bltD, truD, dats, dats0, isScal, anyR, asg, asgs, endD, sets, noEx, isOwn, add_ii, sub_ii, lt_ii, gt_ii, le_ii, isD, Option.map_some, Option.map_none, Option.bind_some, Option.bind_none, Option.map, Option.bind, List.getD_cons_zero, List.getD_cons_succ, List.set_cons_zero, List.set_cons_succ, List.length_cons, List.length_nil, List.map_cons, List.map_nil, List.cons_append, List.nil_append, List.replicate, Nat.reduceAdd, Nat.reduceSub, Nat.reduceLT, Nat.reduceLeDiff, Nat.reduceBEq, Nat.beq, Nat.ble, if_true, if_false, ite_true, ite_false, reduceIte, Bool.not_true, Bool.not_false, Bool.or_true, Bool.true_or, Bool.false_or, Bool.or_false, List.getElem?_cons_zero, List.getElem?_cons_succ, d1, bind_draw])
  simp only [vd, vs, vi] at hi
  simp only [runF, exSs, exS, evE, evEs, evO, evT, evR, evRs, bnd, onE, onN, F.bind, op2, rdV, rdVs, lfD, lf, bopD, cmpD, bltD, truD, dats, dats0, isScal, anyR, asg, asgs, endD, sets, noEx, isOwn, add_ii, sub_ii, lt_ii, gt_ii, le_ii, isD, Option.map_some, Option.map_none, Option.bind_some, Option.bind_none, Option.map, Option.bind, List.getD_cons_zero, List.getD_cons_succ, List.set_cons_zero, List.set_cons_succ, List.length_cons, List.length_nil, List.map_cons, List.map_nil, List.cons_append, List.nil_append, List.replicate, Nat.reduceAdd, Nat.reduceSub, Nat.reduceLT, Nat.reduceLeDiff, Nat.reduceBEq, Nat.beq, Nat.ble, if_true, if_false, ite_true, ite_false, reduceIte, Bool.not_true, Bool.not_false, Bool.or_true, Bool.true_or, Bool.false_or, Bool.or_false, List.getElem?_cons_zero, List.getElem?_cons_succ, b__law_line, hi, bind_draw]
  refine all_draw.mpr fun r hr => ?_
  have hr : r ≤ m := by omega
  have hg : rngD 0 (r : Int) = some ((List.range r).map fun i : Nat => D.int ((0 + i : Nat) : Int)) := rng_nat (a := 0) rfl rfl (by omega) (by omega)
  simp only [hg, F.bind]
  refine F.All_bind.mpr (F.All_bind.mpr ?_)
  refine for_alln (i := 0) (R := fun i e h => ∃ s x4 x5, AB s ∧ s.length ≤ i ∧ e = [vd (.opq 0), vd (.opq 1), vi m, vs s, x4, x5] ∧ h = []) ?_ ?_ ⟨[], none, none, (fun c hc => by cases hc), Nat.le_refl _, rfl, rfl⟩
  · rintro j d hd e h ⟨s, x4, x5, hs, hl, rfl, rfl⟩
    have hj : j < r := by
      have := List.getElem?_eq_some_iff.mp hd
      obtain ⟨h1, _⟩ := this
      rw [List.length_map, List.length_range] at h1
      exact h1
    refine ⟨_, rfl, ?_⟩
    simp only [runF, exSs, exS, evE, evEs, evO, evT, evR, evRs, bnd, onE, onN, F.bind, op2, rdV, rdVs, lfD, lf, bopD, cmpD, bltD, truD, dats, dats0, isScal, anyR, asg, asgs, endD, sets, noEx, isOwn, add_ii, sub_ii, lt_ii, gt_ii, le_ii, isD, Option.map_some, Option.map_none, Option.bind_some, Option.bind_none, Option.map, Option.bind, List.getD_cons_zero, List.getD_cons_succ, List.set_cons_zero, List.set_cons_succ, List.length_cons, List.length_nil, List.map_cons, List.map_nil, List.cons_append, List.nil_append, List.replicate, Nat.reduceAdd, Nat.reduceSub, Nat.reduceLT, Nat.reduceLeDiff, Nat.reduceBEq, Nat.beq, Nat.ble, if_true, if_false, ite_true, ite_false, reduceIte, Bool.not_true, Bool.not_false, Bool.or_true, Bool.true_or, Bool.false_or, Bool.or_false, List.getElem?_cons_zero, List.getElem?_cons_succ, s__law_line_0, d6, bind_draw]
    refine all_draw.mpr fun b hb => ?_
    have e1 := len_str (s := s) (by omega)
    have e2 : eqD (.int (b : Int)) (.int 0) = some (decide (b = 0)) := eq_nat b 0
    by_cases h1 : b = 0
    · rw [decide_eq_true h1] at e2
      simp only [runF, exSs, exS, evE, evEs, evO, evT, evR, evRs, bnd, onE, onN, F.bind, op2, rdV, rdVs, lfD, lf, bopD, cmpD, bltD, truD, dats, dats0, isScal, anyR, asg, asgs, endD, sets, noEx, isOwn, add_ii, sub_ii, lt_ii, gt_ii, le_ii, isD, Option.map_some, Option.map_none, Option.bind_some, Option.bind_none, Option.map, Option.bind, List.getD_cons_zero, List.getD_cons_succ, List.set_cons_zero, List.set_cons_succ, List.length_cons, List.length_nil, List.map_cons, List.map_nil, List.cons_append, List.nil_append, List.replicate, Nat.reduceAdd, Nat.reduceSub, Nat.reduceLT, Nat.reduceLeDiff, Nat.reduceBEq, Nat.beq, Nat.ble, if_true, if_false, ite_true, ite_false, reduceIte, Bool.not_true, Bool.not_false, Bool.or_true, Bool.true_or, Bool.false_or, Bool.or_false, List.getElem?_cons_zero, List.getElem?_cons_succ, e2, d2, bind_draw]
      refine all_draw.mpr fun c hc => ?_
      have hc : c < 2 := hc
      simp only [runF, exSs, exS, evE, evEs, evO, evT, evR, evRs, bnd, onE, onN, F.bind, op2, rdV, rdVs, lfD, lf, bopD, cmpD, bltD, truD, dats, dats0, isScal, anyR, asg, asgs, endD, sets, noEx, isOwn, add_ii, sub_ii, lt_ii, gt_ii, le_ii, isD, Option.map_some, Option.map_none, Option.bind_some, Option.bind_none, Option.map, Option.bind, List.getD_cons_zero, List.getD_cons_succ, List.set_cons_zero, List.set_cons_succ, List.length_cons, List.length_nil, List.map_cons, List.map_nil, List.cons_append, List.nil_append, List.replicate, Nat.reduceAdd, Nat.reduceSub, Nat.reduceLT, Nat.reduceLeDiff, Nat.reduceBEq, Nat.beq, Nat.ble, if_true, if_false, ite_true, ite_false, reduceIte, Bool.not_true, Bool.not_false, Bool.or_true, Bool.true_or, Bool.false_or, Bool.or_false, List.getElem?_cons_zero, List.getElem?_cons_succ, sub_ab hc, add_ss (s := s) (t := [97 + c]) (by simp only [List.length_cons, List.length_nil]; omega)]
      exact ⟨s ++ [97 + c], _, _, ab_snoc hs (by omega), by rw [List.length_append]; simp only [List.length_cons, List.length_nil]; omega, rfl, rfl⟩
    · rw [decide_eq_false h1] at e2
      by_cases h2 : s.length < b
      · have h3 : decide ((s.length : Int) < (b : Int)) = true := decide_eq_true (by omega)
        simp only [runF, exSs, exS, evE, evEs, evO, evT, evR, evRs, bnd, onE, onN, F.bind, op2, rdV, rdVs, lfD, lf, bopD, cmpD, bltD, truD, dats, dats0, isScal, anyR, asg, asgs, endD, sets, noEx, isOwn, add_ii, sub_ii, lt_ii, gt_ii, le_ii, isD, Option.map_some, Option.map_none, Option.bind_some, Option.bind_none, Option.map, Option.bind, List.getD_cons_zero, List.getD_cons_succ, List.set_cons_zero, List.set_cons_succ, List.length_cons, List.length_nil, List.map_cons, List.map_nil, List.cons_append, List.nil_append, List.replicate, Nat.reduceAdd, Nat.reduceSub, Nat.reduceLT, Nat.reduceLeDiff, Nat.reduceBEq, Nat.beq, Nat.ble, if_true, if_false, ite_true, ite_false, reduceIte, Bool.not_true, Bool.not_false, Bool.or_true, Bool.true_or, Bool.false_or, Bool.or_false, List.getElem?_cons_zero, List.getElem?_cons_succ, e2, e1, h3, d2, bind_draw]
        refine all_draw.mpr fun c hc => ?_
        have hc : c < 2 := hc
        simp only [runF, exSs, exS, evE, evEs, evO, evT, evR, evRs, bnd, onE, onN, F.bind, op2, rdV, rdVs, lfD, lf, bopD, cmpD, bltD, truD, dats, dats0, isScal, anyR, asg, asgs, endD, sets, noEx, isOwn, add_ii, sub_ii, lt_ii, gt_ii, le_ii, isD, Option.map_some, Option.map_none, Option.bind_some, Option.bind_none, Option.map, Option.bind, List.getD_cons_zero, List.getD_cons_succ, List.set_cons_zero, List.set_cons_succ, List.length_cons, List.length_nil, List.map_cons, List.map_nil, List.cons_append, List.nil_append, List.replicate, Nat.reduceAdd, Nat.reduceSub, Nat.reduceLT, Nat.reduceLeDiff, Nat.reduceBEq, Nat.beq, Nat.ble, if_true, if_false, ite_true, ite_false, reduceIte, Bool.not_true, Bool.not_false, Bool.or_true, Bool.true_or, Bool.false_or, Bool.or_false, List.getElem?_cons_zero, List.getElem?_cons_succ, sub_ab hc, add_ss (s := s) (t := [97 + c]) (by simp only [List.length_cons, List.length_nil]; omega)]
        exact ⟨s ++ [97 + c], _, _, ab_snoc hs (by omega), by rw [List.length_append]; simp only [List.length_cons, List.length_nil]; omega, rfl, rfl⟩
      · have h3 : decide ((s.length : Int) < (b : Int)) = false := decide_eq_false (by omega)
        have e4 := sub_str (s := s) (z := (s.length : Int) - (b : Int)) (n := s.length - b) (by omega) (by omega) (by omega)
        simp only [runF, exSs, exS, evE, evEs, evO, evT, evR, evRs, bnd, onE, onN, F.bind, op2, rdV, rdVs, lfD, lf, bopD, cmpD, bltD, truD, dats, dats0, isScal, anyR, asg, asgs, endD, sets, noEx, isOwn, add_ii, sub_ii, lt_ii, gt_ii, le_ii, isD, Option.map_some, Option.map_none, Option.bind_some, Option.bind_none, Option.map, Option.bind, List.getD_cons_zero, List.getD_cons_succ, List.set_cons_zero, List.set_cons_succ, List.length_cons, List.length_nil, List.map_cons, List.map_nil, List.cons_append, List.nil_append, List.replicate, Nat.reduceAdd, Nat.reduceSub, Nat.reduceLT, Nat.reduceLeDiff, Nat.reduceBEq, Nat.beq, Nat.ble, if_true, if_false, ite_true, ite_false, reduceIte, Bool.not_true, Bool.not_false, Bool.or_true, Bool.true_or, Bool.false_or, Bool.or_false, List.getElem?_cons_zero, List.getElem?_cons_succ, e2, e1, h3, e4, add_ss (s := s) (t := [s[s.length - b]'(by omega)]) (by simp only [List.length_cons, List.length_nil]; omega)]
        exact ⟨s ++ [s[s.length - b]'(by omega)], _, _, ab_snoc hs (hs _ (List.getElem_mem _)), by rw [List.length_append]; simp only [List.length_cons, List.length_nil]; omega, rfl, rfl⟩
  · rintro e h ⟨s, x4, x5, hs, hl, rfl, rfl⟩
    rw [List.length_map, List.length_range] at hl
    simp only [runF, exSs, exS, evE, evEs, evO, evT, evR, evRs, bnd, onE, onN, F.bind, op2, rdV, rdVs, lfD, lf, bopD, cmpD, bltD, truD, dats, dats0, isScal, anyR, asg, asgs, endD, sets, noEx, isOwn, add_ii, sub_ii, lt_ii, gt_ii, le_ii, isD, Option.map_some, Option.map_none, Option.bind_some, Option.bind_none, Option.map, Option.bind, List.getD_cons_zero, List.getD_cons_succ, List.set_cons_zero, List.set_cons_succ, List.length_cons, List.length_nil, List.map_cons, List.map_nil, List.cons_append, List.nil_append, List.replicate, Nat.reduceAdd, Nat.reduceSub, Nat.reduceLT, Nat.reduceLeDiff, Nat.reduceBEq, Nat.beq, Nat.ble, if_true, if_false, ite_true, ite_false, reduceIte, Bool.not_true, Bool.not_false, Bool.or_true, Bool.true_or, Bool.false_or, Bool.or_false, List.getElem?_cons_zero, List.getElem?_cons_succ]
    exact ⟨s, hs, by omega, rfl⟩
theorem a_rule [HasD T 19] [Has T 23 b__law_rule] : (callF gc T wn (k + 2) 23 [.opq 0, .opq 1, WORDSd]).Al fun r => ∃ w : Way, w.Ok ∧ r = .ok w.d := al_iff.mpr c_rule
theorem a_line [HasD T 19] [Has T 28 b__law_line] (m : Nat) (hm : m ≤ 100) : (callF gc T wn (k + 2) 28 [.opq 0, .opq 1, .int m]).Al fun r => ∃ s : List Nat, AB s ∧ s.length ≤ m ∧ r = .ok (.str s) := al_iff.mpr (c_line m hm)
/-- a way and a text are drawn -/
theorem a_drawn [HasD T 19] [Has T 23 b__law_rule] [Has T 28 b__law_line] {i j : Nat} {m : Nat} {z : Int} {e : En} {h : Hq} (hz : z = (m : Int)) (hm : m ≤ 100) (hi : i < e.length + 2) (hj : j < e.length + 2) :
    (exS gc (callF gc T wn (k + 2)) wn (.par [i, j] [(.ex (.cal 23 (.cons (.var 0) (.cons (.var 1) (.cons (.tup (.cons (.cst (.str [110, 111, 119])) (.cons (.cst (.str [110, 101, 120, 116])) (.cons (.cst (.str [116, 119, 111])) (.cons (.cst (.str [102, 101, 119, 101, 115, 116])) .nil))))) .nil))))), (.ex (.cal 28 (.cons (.var 0) (.cons (.var 1) (.cons (.cst (.int z)) .nil)))))]) (vd (.opq 0) :: vd (.opq 1) :: e) h).Al
    fun r => ∃ (w : Way) (s : List Nat), w.Ok ∧ AB s ∧ s.length ≤ m ∧ r = .nx (((vd (.opq 0) :: vd (.opq 1) :: e).set i (vd w.d)).set j (vs s)) h := by
  have r1 := a_rule (gc := gc) (T := T) (wn := wn) (k := k)
  have r2 := a_line (gc := gc) (T := T) (wn := wn) (k := k) m hm
  rw [← hz] at r2
  have g1 : i < (vd (.opq 0) :: vd (.opq 1) :: e).length := by simp only [List.length_cons]; omega
  have g2 : ∀ w : Way, j < ((vd (.opq 0) :: vd (.opq 1) :: e).set i (vd w.d)).length := fun w => by rw [List.length_set]; simp only [List.length_cons]; omega
  simp only [exS, evRs, evR, evE, evEs, onE, bnd, F.bind, List.getD_cons_zero, List.getD_cons_succ, rdVs, rdV, Option.map_some, Option.bind_some, dats, dats0, lfD, List.length_cons, List.length_nil, Nat.reduceAdd, Nat.ble, Al_bind]
  refine al_imp r1 ?_
  rintro _ ⟨w, hw, rfl⟩
  simp only [anyR, Bool.not_false, Bool.true_or, Al_ret, Al_bind, F.bind, rdVs, rdV, Option.map_some, Option.bind_some]
  refine al_imp r2 ?_
  rintro _ ⟨s, hs, hl, rfl⟩
  simp only [anyR, Bool.not_false, Bool.true_or, Al_ret, Al_bind, F.bind, sets, if_pos g1, if_pos (g2 w)]
  exact ⟨w, s, hw, hs, hl, rfl⟩
theorem shp_tok (n : Nat) {t : Tok} (h : ∀ c, t = .lit c → c = 97 ∨ c = 98) : D.shp (n + 1) t.d = true := by
  cases t with
  | lit c =>
    rcases h c rfl with rfl | rfl
    · cases n <;> rfl
    · cases n <;> rfl
  | cpy b m => cases n <;> rfl
def TokAB (t : Tok) : Prop := ∀ c, t = .lit c → c = 97 ∨ c = 98
theorem getD_ab {s : List Nat} (hs : AB s) {p : Nat} (hp : p < s.length) : s.getD p 0 = 97 ∨ s.getD p 0 = 98 := by
  rw [show s.getD p 0 = s[p] by simp [List.getD_eq_getElem?_getD, hp]]
  exact hs _ (List.getElem_mem hp)
theorem tokF_ab (w : Way) {s : List Nat} (hs : AB s) {p : Nat} (hp : p < s.length) : TokAB (tokF w s p) := by
  have h0 := getD_ab hs hp
  have hl : TokAB (.lit (s.getD p 0)) := fun c h => by cases h; exact h0
  unfold tokF
  split
  · unfold fewAt
    suffices H : ∀ (l : List (Nat × Nat)) (t : Tok), TokAB t → TokAB (l.foldl (fewStep w (rl w s s.length) p) t) from H _ _ hl
    intro l
    induction l with
    | nil => intro t h; exact h
    | cons c l ih =>
      intro t h
      rw [List.foldl_cons]
      apply ih
      unfold fewStep
      split
      · exact h
      · split
        · intro d e; cases e
        · exact h
  · unfold tokAt
    split
    · exact hl
    · split
      · exact hl
      · intro d e; cases e
theorem toks_ab {f : Nat → Tok} {n : Nat} (hf : ∀ p, p < n → TokAB (f p)) : ∀ m p, ∀ t ∈ toks f n m p, TokAB t
  | 0, p, t, h => by cases h
  | m + 1, p, t, h => by
    rw [toks] at h
    split at h
    · rename_i hp
      rcases List.mem_cons.mp h with rfl | h
      · exact hf p hp
      · exact toks_ab hf m _ t h
    · cases h
theorem tokens_ab (w : Way) {s : List Nat} (hs : AB s) : ∀ t ∈ tokens w s, TokAB t := toks_ab (fun p hp => tokF_ab w hs hp) _ _
theorem shps_tok (n : Nat) : ∀ {l : List Tok}, (∀ t ∈ l, TokAB t) → D.shps (n + 1) (l.map Tok.d) = true
  | [], _ => rfl
  | t :: l, h => by
    rw [List.map_cons, D.shps, shp_tok n (h t List.mem_cons_self), shps_tok n fun u hu => h u (List.mem_cons_of_mem _ hu)]
    rfl
theorem shps_nls (n : Nat) (l : List Nat) : D.shps n (nls l) = true := shps_map (fun x => by cases n <;> rfl) l
theorem tokens_len (w : Way) (s : List Nat) : (tokens w s).length ≤ s.length := toks_len _ _ _ _
end
end Bk
/-! Bk4: values that are no ways, texts, places, sights. -/
namespace Bk
def b_check_place : Fn := ⟨2, 2, (.cons (.ife (.not (.val (.cal 1 (.cons (.var 1) (.cons (.cst (.int 0)) (.cons (.bop .sub (.blt .len (.cons (.var 0) .nil)) (.cst (.int 1))) .nil)))))) (.cons (.rai 3) .nil) .nil) .nil)⟩
def b_copies : Fn := ⟨3, 3, (.cons (.exp (.cal 9 (.cons (.var 0) .nil))) (.cons (.exp (.cal 8 (.cons (.var 1) .nil))) (.cons (.exp (.cal 7 (.cons (.var 1) (.cons (.var 2) .nil)))) (.cons (.ret (.blt .tuple (.cons (.cal 5 (.cons (.var 0) (.cons (.var 1) (.cons (.var 2) .nil)))) .nil))) .nil))))⟩
def b_best : Fn := ⟨3, 3, (.cons (.exp (.cal 9 (.cons (.var 0) .nil))) (.cons (.exp (.cal 8 (.cons (.var 1) .nil))) (.cons (.exp (.cal 7 (.cons (.var 1) (.cons (.var 2) .nil)))) (.cons (.ret (.cal 6 (.cons (.var 0) (.cons (.var 1) (.cons (.var 2) .nil))))) .nil))))⟩
def b_joined : Fn := ⟨3, 3, (.cons (.exp (.cal 9 (.cons (.var 0) .nil))) (.cons (.exp (.cal 8 (.cons (.var 1) .nil))) (.cons (.exp (.cal 8 (.cons (.var 2) .nil))) (.cons (.ret (.bop .sub (.bop .sub (.blt .len (.cons (.cal 16 (.cons (.var 0) (.cons (.bop .add (.var 1) (.var 2)) .nil))) .nil)) (.blt .len (.cons (.cal 16 (.cons (.var 0) (.cons (.var 1) .nil))) .nil))) (.blt .len (.cons (.cal 16 (.cons (.var 0) (.cons (.var 2) .nil))) .nil)))) .nil))))⟩
section
variable {gc : Gc} {T : Tab} {wn k : Nat}
/-- a value that isinstance may look at -/
def D.plain : D → Bool
  | .opq _ => false
  | _ => true
def betB (v : D) (lo hi : Int) : Bool := match v with
  | .int i => decide (lo ≤ i) && decide (i ≤ hi)
  | _ => false
def wordB (v : D) (ws : List (List Nat)) : Bool := match v with
  | .str s => ws.any fun t => t == s
  | _ => false
theorem c_bet [Has T 1 b_is_between] (v : D) (hv : v.plain = true) (lo hi : Int) : callF gc T wn (k + 1) 1 [v, .int lo, .int hi] = ok (.bl (betB v lo hi)) := by
  cases v with
  | int i => exact c_is_between i lo hi
  | opq n => cases hv
  | non => rw [call_has b_is_between]; simp only [runF, exSs, exS, evE, evEs, evO, evT, evR, evRs, bnd, onE, onN, F.bind, op2, rdV, rdVs, lfD, lf, bopD, cmpD, bltD, truD, dats, dats0, isScal, anyR, asg, asgs, endD, sets, noEx, isOwn, add_ii, sub_ii, lt_ii, gt_ii, le_ii, isD, Option.map_some, Option.map_none, Option.bind_some, Option.bind_none, Option.map, Option.bind, List.getD_cons_zero, List.getD_cons_succ, List.set_cons_zero, List.set_cons_succ, List.length_cons, List.length_nil, List.map_cons, List.map_nil, List.cons_append, List.nil_append, List.replicate, Nat.reduceAdd, Nat.reduceSub, Nat.reduceLT, Nat.reduceLeDiff, Nat.reduceBEq, Nat.beq, Nat.ble, if_true, if_false, ite_true, ite_false, reduceIte, Bool.not_true, Bool.not_false, Bool.or_true, Bool.true_or, Bool.false_or, Bool.or_false, List.getElem?_cons_zero, List.getElem?_cons_succ, b_is_between, ityD, betB]
  | bl b => rw [call_has b_is_between]; simp only [runF, exSs, exS, evE, evEs, evO, evT, evR, evRs, bnd, onE, onN, F.bind, op2, rdV, rdVs, lfD, lf, bopD, cmpD, bltD, truD, dats, dats0, isScal, anyR, asg, asgs, endD, sets, noEx, isOwn, add_ii, sub_ii, lt_ii, gt_ii, le_ii, isD, Option.map_some, Option.map_none, Option.bind_some, Option.bind_none, Option.map, Option.bind, List.getD_cons_zero, List.getD_cons_succ, List.set_cons_zero, List.set_cons_succ, List.length_cons, List.length_nil, List.map_cons, List.map_nil, List.cons_append, List.nil_append, List.replicate, Nat.reduceAdd, Nat.reduceSub, Nat.reduceLT, Nat.reduceLeDiff, Nat.reduceBEq, Nat.beq, Nat.ble, if_true, if_false, ite_true, ite_false, reduceIte, Bool.not_true, Bool.not_false, Bool.or_true, Bool.true_or, Bool.false_or, Bool.or_false, List.getElem?_cons_zero, List.getElem?_cons_succ, b_is_between, ityD, betB]
  | str s => rw [call_has b_is_between]; simp only [runF, exSs, exS, evE, evEs, evO, evT, evR, evRs, bnd, onE, onN, F.bind, op2, rdV, rdVs, lfD, lf, bopD, cmpD, bltD, truD, dats, dats0, isScal, anyR, asg, asgs, endD, sets, noEx, isOwn, add_ii, sub_ii, lt_ii, gt_ii, le_ii, isD, Option.map_some, Option.map_none, Option.bind_some, Option.bind_none, Option.map, Option.bind, List.getD_cons_zero, List.getD_cons_succ, List.set_cons_zero, List.set_cons_succ, List.length_cons, List.length_nil, List.map_cons, List.map_nil, List.cons_append, List.nil_append, List.replicate, Nat.reduceAdd, Nat.reduceSub, Nat.reduceLT, Nat.reduceLeDiff, Nat.reduceBEq, Nat.beq, Nat.ble, if_true, if_false, ite_true, ite_false, reduceIte, Bool.not_true, Bool.not_false, Bool.or_true, Bool.true_or, Bool.false_or, Bool.or_false, List.getElem?_cons_zero, List.getElem?_cons_succ, b_is_between, ityD, betB]
  | tup s => rw [call_has b_is_between]; simp only [runF, exSs, exS, evE, evEs, evO, evT, evR, evRs, bnd, onE, onN, F.bind, op2, rdV, rdVs, lfD, lf, bopD, cmpD, bltD, truD, dats, dats0, isScal, anyR, asg, asgs, endD, sets, noEx, isOwn, add_ii, sub_ii, lt_ii, gt_ii, le_ii, isD, Option.map_some, Option.map_none, Option.bind_some, Option.bind_none, Option.map, Option.bind, List.getD_cons_zero, List.getD_cons_succ, List.set_cons_zero, List.set_cons_succ, List.length_cons, List.length_nil, List.map_cons, List.map_nil, List.cons_append, List.nil_append, List.replicate, Nat.reduceAdd, Nat.reduceSub, Nat.reduceLT, Nat.reduceLeDiff, Nat.reduceBEq, Nat.beq, Nat.ble, if_true, if_false, ite_true, ite_false, reduceIte, Bool.not_true, Bool.not_false, Bool.or_true, Bool.true_or, Bool.false_or, Bool.or_false, List.getElem?_cons_zero, List.getElem?_cons_succ, b_is_between, ityD, betB]
  | lst s => rw [call_has b_is_between]; simp only [runF, exSs, exS, evE, evEs, evO, evT, evR, evRs, bnd, onE, onN, F.bind, op2, rdV, rdVs, lfD, lf, bopD, cmpD, bltD, truD, dats, dats0, isScal, anyR, asg, asgs, endD, sets, noEx, isOwn, add_ii, sub_ii, lt_ii, gt_ii, le_ii, isD, Option.map_some, Option.map_none, Option.bind_some, Option.bind_none, Option.map, Option.bind, List.getD_cons_zero, List.getD_cons_succ, List.set_cons_zero, List.set_cons_succ, List.length_cons, List.length_nil, List.map_cons, List.map_nil, List.cons_append, List.nil_append, List.replicate, Nat.reduceAdd, Nat.reduceSub, Nat.reduceLT, Nat.reduceLeDiff, Nat.reduceBEq, Nat.beq, Nat.ble, if_true, if_false, ite_true, ite_false, reduceIte, Bool.not_true, Bool.not_false, Bool.or_true, Bool.true_or, Bool.false_or, Bool.or_false, List.getElem?_cons_zero, List.getElem?_cons_succ, b_is_between, ityD, betB]
theorem isin_words (s : List Nat) : ∀ ws : List (List Nat), isinD (.str s) (.tup (ws.map D.str)) = some (ws.any fun t => t == s) := fun ws => by
  have h1 : (ws.map D.str).all D.isFlat = true := by rw [List.all_eq_true]; intro x hx; obtain ⟨t, _, rfl⟩ := List.mem_map.mp hx; rfl
  show (if _ then _ else _) = _
  rw [if_pos (by rw [h1]; rfl)]
  congr 1
  unfold inD
  rw [List.any_map]
  rfl
theorem c_word [Has T 0 b_is_word] (v : D) (hv : v.plain = true) (ws : List (List Nat)) : callF gc T wn (k + 1) 0 [v, .tup (ws.map D.str)] = ok (.bl (wordB v ws)) := by
  cases v with
  | str s => exact c_is_word s _ _ (isin_words s ws)
  | opq n => cases hv
  | non => rw [call_has b_is_word]; simp only [runF, exSs, exS, evE, evEs, evO, evT, evR, evRs, bnd, onE, onN, F.bind, op2, rdV, rdVs, lfD, lf, bopD, cmpD, bltD, truD, dats, dats0, isScal, anyR, asg, asgs, endD, sets, noEx, isOwn, add_ii, sub_ii, lt_ii, gt_ii, le_ii, isD, Option.map_some, Option.map_none, Option.bind_some, Option.bind_none, Option.map, Option.bind, List.getD_cons_zero, List.getD_cons_succ, List.set_cons_zero, List.set_cons_succ, List.length_cons, List.length_nil, List.map_cons, List.map_nil, List.cons_append, List.nil_append, List.replicate, Nat.reduceAdd, Nat.reduceSub, Nat.reduceLT, Nat.reduceLeDiff, Nat.reduceBEq, Nat.beq, Nat.ble, if_true, if_false, ite_true, ite_false, reduceIte, Bool.not_true, Bool.not_false, Bool.or_true, Bool.true_or, Bool.false_or, Bool.or_false, List.getElem?_cons_zero, List.getElem?_cons_succ, b_is_word, ityD, wordB]
  | bl b => rw [call_has b_is_word]; simp only [runF, exSs, exS, evE, evEs, evO, evT, evR, evRs, bnd, onE, onN, F.bind, op2, rdV, rdVs, lfD, lf, bopD, cmpD, bltD, truD, dats, dats0, isScal, anyR, asg, asgs, endD, sets, noEx, isOwn, add_ii, sub_ii, lt_ii, gt_ii, le_ii, isD, Option.map_some, Option.map_none, Option.bind_some, Option.bind_none, Option.map, Option.bind, List.getD_cons_zero, List.getD_cons_succ, List.set_cons_zero, List.set_cons_succ, List.length_cons, List.length_nil, List.map_cons, List.map_nil, List.cons_append, List.nil_append, List.replicate, Nat.reduceAdd, Nat.reduceSub, Nat.reduceLT, Nat.reduceLeDiff, Nat.reduceBEq, Nat.beq, Nat.ble, if_true, if_false, ite_true, ite_false, reduceIte, Bool.not_true, Bool.not_false, Bool.or_true, Bool.true_or, Bool.false_or, Bool.or_false, List.getElem?_cons_zero, List.getElem?_cons_succ, b_is_word, ityD, wordB]
  | int s => rw [call_has b_is_word]; simp only [runF, exSs, exS, evE, evEs, evO, evT, evR, evRs, bnd, onE, onN, F.bind, op2, rdV, rdVs, lfD, lf, bopD, cmpD, bltD, truD, dats, dats0, isScal, anyR, asg, asgs, endD, sets, noEx, isOwn, add_ii, sub_ii, lt_ii, gt_ii, le_ii, isD, Option.map_some, Option.map_none, Option.bind_some, Option.bind_none, Option.map, Option.bind, List.getD_cons_zero, List.getD_cons_succ, List.set_cons_zero, List.set_cons_succ, List.length_cons, List.length_nil, List.map_cons, List.map_nil, List.cons_append, List.nil_append, List.replicate, Nat.reduceAdd, Nat.reduceSub, Nat.reduceLT, Nat.reduceLeDiff, Nat.reduceBEq, Nat.beq, Nat.ble, if_true, if_false, ite_true, ite_false, reduceIte, Bool.not_true, Bool.not_false, Bool.or_true, Bool.true_or, Bool.false_or, Bool.or_false, List.getElem?_cons_zero, List.getElem?_cons_succ, b_is_word, ityD, wordB]
  | tup s => rw [call_has b_is_word]; simp only [runF, exSs, exS, evE, evEs, evO, evT, evR, evRs, bnd, onE, onN, F.bind, op2, rdV, rdVs, lfD, lf, bopD, cmpD, bltD, truD, dats, dats0, isScal, anyR, asg, asgs, endD, sets, noEx, isOwn, add_ii, sub_ii, lt_ii, gt_ii, le_ii, isD, Option.map_some, Option.map_none, Option.bind_some, Option.bind_none, Option.map, Option.bind, List.getD_cons_zero, List.getD_cons_succ, List.set_cons_zero, List.set_cons_succ, List.length_cons, List.length_nil, List.map_cons, List.map_nil, List.cons_append, List.nil_append, List.replicate, Nat.reduceAdd, Nat.reduceSub, Nat.reduceLT, Nat.reduceLeDiff, Nat.reduceBEq, Nat.beq, Nat.ble, if_true, if_false, ite_true, ite_false, reduceIte, Bool.not_true, Bool.not_false, Bool.or_true, Bool.true_or, Bool.false_or, Bool.or_false, List.getElem?_cons_zero, List.getElem?_cons_succ, b_is_word, ityD, wordB]
  | lst s => rw [call_has b_is_word]; simp only [runF, exSs, exS, evE, evEs, evO, evT, evR, evRs, bnd, onE, onN, F.bind, op2, rdV, rdVs, lfD, lf, bopD, cmpD, bltD, truD, dats, dats0, isScal, anyR, asg, asgs, endD, sets, noEx, isOwn, add_ii, sub_ii, lt_ii, gt_ii, le_ii, isD, Option.map_some, Option.map_none, Option.bind_some, Option.bind_none, Option.map, Option.bind, List.getD_cons_zero, List.getD_cons_succ, List.set_cons_zero, List.set_cons_succ, List.length_cons, List.length_nil, List.map_cons, List.map_nil, List.cons_append, List.nil_append, List.replicate, Nat.reduceAdd, Nat.reduceSub, Nat.reduceLT, Nat.reduceLeDiff, Nat.reduceBEq, Nat.beq, Nat.ble, if_true, if_false, ite_true, ite_false, reduceIte, Bool.not_true, Bool.not_false, Bool.or_true, Bool.true_or, Bool.false_or, Bool.or_false, List.getElem?_cons_zero, List.getElem?_cons_succ, b_is_word, ityD, wordB]
abbrev LOOKSl : List (List Nat) := [[102, 101, 119, 101, 115, 116], [110, 101, 120, 116], [110, 111, 119], [116, 119, 111]]
abbrev TIESl : List (List Nat) := [[102, 97, 114], [110, 101, 97, 114]]
abbrev SIGHTSl : List (List Nat) := [[108, 101, 110, 103, 116, 104, 115], [110, 117, 109, 98, 101, 114], [116, 111, 107, 101, 110, 115]]
def way6 (a b c d e f : D) : Bool := wordB a LOOKSl && (betB b 2 4 && (betB c 2 3 && ((match c with | .int l => betB d l 4 | _ => false) && (betB e 0 1 && wordB f TIESl))))
def wayB : D → Bool
  | .tup [a, b, c, d, e, f] => way6 a b c d e f
  | _ => false
/-- all parts may be looked at -/
def D.plains : D → Bool
  | .tup xs => xs.all D.plain
  | .opq _ => false
  | _ => true
section
variable [Has T 1 b_is_between] [Has T 0 b_is_word] [Has T 2 b_is_way] [hL : HasG gc 1 LOOKSd] [hT : HasG gc 0 TIESd]
theorem c_way6 (a b c d e f : D) (ha : a.plain = true) (hb : b.plain = true) (hc : c.plain = true) (hd : d.plain = true) (he : e.plain = true) (hf : f.plain = true) : callF gc T wn (k + 2) 2 [.tup [a, b, c, d, e, f]] = ok (.bl (way6 a b c d e f)) := by
  rw [call_has b_is_way]
  obtain ⟨a0, a1, a2, a3, a4, a5⟩ := at6 a b c d e f
  have e6 : eqD (D.int ((6 : Nat) : Int)) (D.int 6) = some true := rfl
  have w1 : callF gc T wn (k + 1) 0 [a, LOOKSd] = _ := c_word a ha LOOKSl
  have w2 : callF gc T wn (k + 1) 0 [f, TIESd] = _ := c_word f hf TIESl
  have b1 := c_bet (gc := gc) (T := T) (wn := wn) (k := k) b hb 2 4
  have b2 := c_bet (gc := gc) (T := T) (wn := wn) (k := k) c hc 2 3
  have b4 := c_bet (gc := gc) (T := T) (wn := wn) (k := k) e he 0 1
  cases q1 : wordB a LOOKSl with
  | false =>
    rw [q1] at w1
    simp only [runF, exSs, exS, evE, evEs, evO, evT, evR, evRs, bnd, onE, onN, F.bind, op2, rdV, rdVs, lfD, lf, bopD, cmpD, bltD, truD, dats, dats0, isScal, anyR, asg, asgs, endD, sets, noEx, isOwn, add_ii, sub_ii, lt_ii, gt_ii, le_ii, isD, Option.map_some, Option.map_none, Option.bind_some, Option.bind_none, Option.map, Option.bind, List.getD_cons_zero, List.getD_cons_succ, List.set_cons_zero, List.set_cons_succ, List.length_cons, List.length_nil, List.map_cons, List.map_nil, List.cons_append, List.nil_append, List.replicate, Nat.reduceAdd, Nat.reduceSub, Nat.reduceLT, Nat.reduceLeDiff, Nat.reduceBEq, Nat.beq, Nat.ble, if_true, if_false, ite_true, ite_false, reduceIte, Bool.not_true, Bool.not_false, Bool.or_true, Bool.true_or, Bool.false_or, Bool.or_false, List.getElem?_cons_zero, List.getElem?_cons_succ, b_is_way, ityD, lenD, subD, e6, a0, a1, a2, a3, a4, a5, hL.h, hT.h, w1, way6, q1, Bool.false_and]
  | true =>
    rw [q1] at w1
    cases q2 : betB b 2 4 with
    | false =>
      rw [q2] at b1
      simp only [runF, exSs, exS, evE, evEs, evO, evT, evR, evRs, bnd, onE, onN, F.bind, op2, rdV, rdVs, lfD, lf, bopD, cmpD, bltD, truD, dats, dats0, isScal, anyR, asg, asgs, endD, sets, noEx, isOwn, add_ii, sub_ii, lt_ii, gt_ii, le_ii, isD, Option.map_some, Option.map_none, Option.bind_some, Option.bind_none, Option.map, Option.bind, List.getD_cons_zero, List.getD_cons_succ, List.set_cons_zero, List.set_cons_succ, List.length_cons, List.length_nil, List.map_cons, List.map_nil, List.cons_append, List.nil_append, List.replicate, Nat.reduceAdd, Nat.reduceSub, Nat.reduceLT, Nat.reduceLeDiff, Nat.reduceBEq, Nat.beq, Nat.ble, if_true, if_false, ite_true, ite_false, reduceIte, Bool.not_true, Bool.not_false, Bool.or_true, Bool.true_or, Bool.false_or, Bool.or_false, List.getElem?_cons_zero, List.getElem?_cons_succ, b_is_way, ityD, lenD, subD, e6, a0, a1, a2, a3, a4, a5, hL.h, hT.h, w1, b1, way6, q1, q2, Bool.false_and, Bool.true_and]
    | true =>
      rw [q2] at b1
      cases q3 : betB c 2 3 with
      | false =>
        rw [q3] at b2
        simp only [runF, exSs, exS, evE, evEs, evO, evT, evR, evRs, bnd, onE, onN, F.bind, op2, rdV, rdVs, lfD, lf, bopD, cmpD, bltD, truD, dats, dats0, isScal, anyR, asg, asgs, endD, sets, noEx, isOwn, add_ii, sub_ii, lt_ii, gt_ii, le_ii, isD, Option.map_some, Option.map_none, Option.bind_some, Option.bind_none, Option.map, Option.bind, List.getD_cons_zero, List.getD_cons_succ, List.set_cons_zero, List.set_cons_succ, List.length_cons, List.length_nil, List.map_cons, List.map_nil, List.cons_append, List.nil_append, List.replicate, Nat.reduceAdd, Nat.reduceSub, Nat.reduceLT, Nat.reduceLeDiff, Nat.reduceBEq, Nat.beq, Nat.ble, if_true, if_false, ite_true, ite_false, reduceIte, Bool.not_true, Bool.not_false, Bool.or_true, Bool.true_or, Bool.false_or, Bool.or_false, List.getElem?_cons_zero, List.getElem?_cons_succ, b_is_way, ityD, lenD, subD, e6, a0, a1, a2, a3, a4, a5, hL.h, hT.h, w1, b1, b2, way6, q1, q2, q3, Bool.false_and, Bool.true_and]
      | true =>
        rw [q3] at b2
        have hci : ∃ l, c = .int l := by
          cases c <;> first | exact ⟨_, rfl⟩ | cases q3
        obtain ⟨l, rfl⟩ := hci
        have b3 := c_bet (gc := gc) (T := T) (wn := wn) (k := k) d hd l 4
        cases q4 : betB d l 4 with
        | false =>
          rw [q4] at b3
          simp only [runF, exSs, exS, evE, evEs, evO, evT, evR, evRs, bnd, onE, onN, F.bind, op2, rdV, rdVs, lfD, lf, bopD, cmpD, bltD, truD, dats, dats0, isScal, anyR, asg, asgs, endD, sets, noEx, isOwn, add_ii, sub_ii, lt_ii, gt_ii, le_ii, isD, Option.map_some, Option.map_none, Option.bind_some, Option.bind_none, Option.map, Option.bind, List.getD_cons_zero, List.getD_cons_succ, List.set_cons_zero, List.set_cons_succ, List.length_cons, List.length_nil, List.map_cons, List.map_nil, List.cons_append, List.nil_append, List.replicate, Nat.reduceAdd, Nat.reduceSub, Nat.reduceLT, Nat.reduceLeDiff, Nat.reduceBEq, Nat.beq, Nat.ble, if_true, if_false, ite_true, ite_false, reduceIte, Bool.not_true, Bool.not_false, Bool.or_true, Bool.true_or, Bool.false_or, Bool.or_false, List.getElem?_cons_zero, List.getElem?_cons_succ, b_is_way, ityD, lenD, subD, e6, a0, a1, a2, a3, a4, a5, hL.h, hT.h, w1, b1, b2, b3, way6, q1, q2, q3, q4, Bool.false_and, Bool.true_and]
        | true =>
          rw [q4] at b3
          cases q5 : betB e 0 1 with
          | false =>
            rw [q5] at b4
            simp only [runF, exSs, exS, evE, evEs, evO, evT, evR, evRs, bnd, onE, onN, F.bind, op2, rdV, rdVs, lfD, lf, bopD, cmpD, bltD, truD, dats, dats0, isScal, anyR, asg, asgs, endD, sets, noEx, isOwn, add_ii, sub_ii, lt_ii, gt_ii, le_ii, isD, Option.map_some, Option.map_none, Option.bind_some, Option.bind_none, Option.map, Option.bind, List.getD_cons_zero, List.getD_cons_succ, List.set_cons_zero, List.set_cons_succ, List.length_cons, List.length_nil, List.map_cons, List.map_nil, List.cons_append, List.nil_append, List.replicate, Nat.reduceAdd, Nat.reduceSub, Nat.reduceLT, Nat.reduceLeDiff, Nat.reduceBEq, Nat.beq, Nat.ble, if_true, if_false, ite_true, ite_false, reduceIte, Bool.not_true, Bool.not_false, Bool.or_true, Bool.true_or, Bool.false_or, Bool.or_false, List.getElem?_cons_zero, List.getElem?_cons_succ, b_is_way, ityD, lenD, subD, e6, a0, a1, a2, a3, a4, a5, hL.h, hT.h, w1, b1, b2, b3, b4, way6, q1, q2, q3, q4, q5, Bool.false_and, Bool.true_and]
          | true =>
            rw [q5] at b4
            simp only [runF, exSs, exS, evE, evEs, evO, evT, evR, evRs, bnd, onE, onN, F.bind, op2, rdV, rdVs, lfD, lf, bopD, cmpD, bltD, truD, dats, dats0, isScal, anyR, asg, asgs, endD, sets, noEx, isOwn, add_ii, sub_ii, lt_ii, gt_ii, le_ii, isD, Option.map_some, Option.map_none, Option.bind_some, Option.bind_none, Option.map, Option.bind, List.getD_cons_zero, List.getD_cons_succ, List.set_cons_zero, List.set_cons_succ, List.length_cons, List.length_nil, List.map_cons, List.map_nil, List.cons_append, List.nil_append, List.replicate, Nat.reduceAdd, Nat.reduceSub, Nat.reduceLT, Nat.reduceLeDiff, Nat.reduceBEq, Nat.beq, Nat.ble, if_true, if_false, ite_true, ite_false, reduceIte, Bool.not_true, Bool.not_false, Bool.or_true, Bool.true_or, Bool.false_or, Bool.or_false, List.getElem?_cons_zero, List.getElem?_cons_succ, b_is_way, ityD, lenD, subD, e6, a0, a1, a2, a3, a4, a5, hL.h, hT.h, w1, w2, b1, b2, b3, b4, way6, q1, q2, q3, q4, q5, Bool.true_and]
theorem c_wayG (d : D) (hd : d.plains = true) : callF gc T wn (k + 2) 2 [d] = ok (.bl (wayB d)) := by
  have other : (∀ a b c d' e f, d ≠ .tup [a, b, c, d', e, f]) → wayB d = false := fun h => by
    unfold wayB
    split
    · rename_i a b c d' e f
      exact absurd rfl (h a b c d' e f)
    · rfl
  cases d with
  | opq n => cases hd
  | non => rw [call_has b_is_way]; simp only [runF, exSs, exS, evE, evEs, evO, evT, evR, evRs, bnd, onE, onN, F.bind, op2, rdV, rdVs, lfD, lf, bopD, cmpD, bltD, truD, dats, dats0, isScal, anyR, asg, asgs, endD, sets, noEx, isOwn, add_ii, sub_ii, lt_ii, gt_ii, le_ii, isD, Option.map_some, Option.map_none, Option.bind_some, Option.bind_none, Option.map, Option.bind, List.getD_cons_zero, List.getD_cons_succ, List.set_cons_zero, List.set_cons_succ, List.length_cons, List.length_nil, List.map_cons, List.map_nil, List.cons_append, List.nil_append, List.replicate, Nat.reduceAdd, Nat.reduceSub, Nat.reduceLT, Nat.reduceLeDiff, Nat.reduceBEq, Nat.beq, Nat.ble, if_true, if_false, ite_true, ite_false, reduceIte, Bool.not_true, Bool.not_false, Bool.or_true, Bool.true_or, Bool.false_or, Bool.or_false, List.getElem?_cons_zero, List.getElem?_cons_succ, b_is_way, ityD, wayB]
  | bl b => rw [call_has b_is_way]; simp only [runF, exSs, exS, evE, evEs, evO, evT, evR, evRs, bnd, onE, onN, F.bind, op2, rdV, rdVs, lfD, lf, bopD, cmpD, bltD, truD, dats, dats0, isScal, anyR, asg, asgs, endD, sets, noEx, isOwn, add_ii, sub_ii, lt_ii, gt_ii, le_ii, isD, Option.map_some, Option.map_none, Option.bind_some, Option.bind_none, Option.map, Option.bind, List.getD_cons_zero, List.getD_cons_succ, List.set_cons_zero, List.set_cons_succ, List.length_cons, List.length_nil, List.map_cons, List.map_nil, List.cons_append, List.nil_append, List.replicate, Nat.reduceAdd, Nat.reduceSub, Nat.reduceLT, Nat.reduceLeDiff, Nat.reduceBEq, Nat.beq, Nat.ble, if_true, if_false, ite_true, ite_false, reduceIte, Bool.not_true, Bool.not_false, Bool.or_true, Bool.true_or, Bool.false_or, Bool.or_false, List.getElem?_cons_zero, List.getElem?_cons_succ, b_is_way, ityD, wayB]
  | int b => rw [call_has b_is_way]; simp only [runF, exSs, exS, evE, evEs, evO, evT, evR, evRs, bnd, onE, onN, F.bind, op2, rdV, rdVs, lfD, lf, bopD, cmpD, bltD, truD, dats, dats0, isScal, anyR, asg, asgs, endD, sets, noEx, isOwn, add_ii, sub_ii, lt_ii, gt_ii, le_ii, isD, Option.map_some, Option.map_none, Option.bind_some, Option.bind_none, Option.map, Option.bind, List.getD_cons_zero, List.getD_cons_succ, List.set_cons_zero, List.set_cons_succ, List.length_cons, List.length_nil, List.map_cons, List.map_nil, List.cons_append, List.nil_append, List.replicate, Nat.reduceAdd, Nat.reduceSub, Nat.reduceLT, Nat.reduceLeDiff, Nat.reduceBEq, Nat.beq, Nat.ble, if_true, if_false, ite_true, ite_false, reduceIte, Bool.not_true, Bool.not_false, Bool.or_true, Bool.true_or, Bool.false_or, Bool.or_false, List.getElem?_cons_zero, List.getElem?_cons_succ, b_is_way, ityD, wayB]
  | str b => rw [call_has b_is_way]; simp only [runF, exSs, exS, evE, evEs, evO, evT, evR, evRs, bnd, onE, onN, F.bind, op2, rdV, rdVs, lfD, lf, bopD, cmpD, bltD, truD, dats, dats0, isScal, anyR, asg, asgs, endD, sets, noEx, isOwn, add_ii, sub_ii, lt_ii, gt_ii, le_ii, isD, Option.map_some, Option.map_none, Option.bind_some, Option.bind_none, Option.map, Option.bind, List.getD_cons_zero, List.getD_cons_succ, List.set_cons_zero, List.set_cons_succ, List.length_cons, List.length_nil, List.map_cons, List.map_nil, List.cons_append, List.nil_append, List.replicate, Nat.reduceAdd, Nat.reduceSub, Nat.reduceLT, Nat.reduceLeDiff, Nat.reduceBEq, Nat.beq, Nat.ble, if_true, if_false, ite_true, ite_false, reduceIte, Bool.not_true, Bool.not_false, Bool.or_true, Bool.true_or, Bool.false_or, Bool.or_false, List.getElem?_cons_zero, List.getElem?_cons_succ, b_is_way, ityD, wayB]
  | lst b => rw [call_has b_is_way]; simp only [runF, exSs, exS, evE, evEs, evO, evT, evR, evRs, bnd, onE, onN, F.bind, op2, rdV, rdVs, lfD, lf, bopD, cmpD, bltD, truD, dats, dats0, isScal, anyR, asg, asgs, endD, sets, noEx, isOwn, add_ii, sub_ii, lt_ii, gt_ii, le_ii, isD, Option.map_some, Option.map_none, Option.bind_some, Option.bind_none, Option.map, Option.bind, List.getD_cons_zero, List.getD_cons_succ, List.set_cons_zero, List.set_cons_succ, List.length_cons, List.length_nil, List.map_cons, List.map_nil, List.cons_append, List.nil_append, List.replicate, Nat.reduceAdd, Nat.reduceSub, Nat.reduceLT, Nat.reduceLeDiff, Nat.reduceBEq, Nat.beq, Nat.ble, if_true, if_false, ite_true, ite_false, reduceIte, Bool.not_true, Bool.not_false, Bool.or_true, Bool.true_or, Bool.false_or, Bool.or_false, List.getElem?_cons_zero, List.getElem?_cons_succ, b_is_way, ityD, wayB]
  | tup xs =>
    have hp : ∀ x ∈ xs, x.plain = true := List.all_eq_true.mp hd
    by_cases h6 : xs.length = 6
    · match xs, h6, hp with
      | [a, b, c, d', e, f], _, hp => exact c_way6 a b c d' e f (hp _ (by simp)) (hp _ (by simp)) (hp _ (by simp)) (hp _ (by simp)) (hp _ (by simp)) (hp _ (by simp))
    · have e6 : eqD (D.int ((xs.length : Nat) : Int)) (D.int 6) = some false := by
        rw [show (.int 6 : D) = .int ((6 : Nat) : Int) from rfl, eq_nat, decide_eq_false h6]
      rw [call_has b_is_way, other (fun a b c d' e f z => by cases z; exact h6 rfl)]
      simp only [runF, exSs, exS, evE, evEs, evO, evT, evR, evRs, bnd, onE, onN, F.bind, op2, rdV, rdVs, lfD, lf, bopD, cmpD, bltD, truD, dats, dats0, isScal, anyR, asg, asgs, endD, sets, noEx, isOwn, add_ii, sub_ii, lt_ii, gt_ii, le_ii, isD, Option.map_some, Option.map_none, Option.bind_some, Option.bind_none, Option.map, Option.bind, List.getD_cons_zero, List.getD_cons_succ, List.set_cons_zero, List.set_cons_succ, List.length_cons, List.length_nil, List.map_cons, List.map_nil, List.cons_append, List.nil_append, List.replicate, Nat.reduceAdd, Nat.reduceSub, Nat.reduceLT, Nat.reduceLeDiff, Nat.reduceBEq, Nat.beq, Nat.ble, if_true, if_false, ite_true, ite_false, reduceIte, Bool.not_true, Bool.not_false, Bool.or_true, Bool.true_or, Bool.false_or, Bool.or_false, List.getElem?_cons_zero, List.getElem?_cons_succ, b_is_way, ityD, lenD, e6]
theorem wayB_ok {w : Way} (hw : w.Ok) : wayB w.d = true := by
  have b1 : (decide ((2 : Int) ≤ (w.win : Int)) && decide ((w.win : Int) ≤ 4)) = true := by have := hw.w1; have := hw.w2; simp; omega
  have b2 : (decide ((2 : Int) ≤ (w.least : Int)) && decide ((w.least : Int) ≤ 3)) = true := by have := hw.l1; have := hw.l2; simp; omega
  have b3 : (decide ((w.least : Int) ≤ (w.most : Int)) && decide ((w.most : Int) ≤ 4)) = true := by have := hw.m1; have := hw.m2; simp; omega
  have b4 : (decide ((0 : Int) ≤ (w.own : Int)) && decide ((w.own : Int) ≤ 1)) = true := by have := hw.o; simp; omega
  have h1 : wordB (.str (lookS w.look)) LOOKSl = true := by cases w.look <;> rfl
  have h2 : wordB (.str (tieS w.far)) TIESl = true := by cases w.far <;> rfl
  show way6 _ _ _ _ _ _ = true
  unfold way6
  rw [h1, h2]
  simp only [betB, b1, b2, b3, b4, Bool.and_true]
variable [Has T 9 b_check_way]
theorem c_cw_bad {d : D} (hd : d.plains = true) (hw : wayB d = false) : callF gc T wn (k + 3) 9 [d] = .ret (.ex 0) := by
  rw [call_has b_check_way]
  have e := c_wayG (gc := gc) (T := T) (wn := wn) (k := k) d hd
  rw [hw] at e
  simp only [runF, exSs, exS, evE, evEs, evO, evT, evR, evRs, bnd, onE, onN, F.bind, op2, rdV, rdVs, lfD, lf, bopD, cmpD, bltD, truD, dats, dats0, isScal, anyR, asg, asgs, endD, sets, noEx, isOwn, add_ii, sub_ii, lt_ii, gt_ii, le_ii, isD, Option.map_some, Option.map_none, Option.bind_some, Option.bind_none, Option.map, Option.bind, List.getD_cons_zero, List.getD_cons_succ, List.set_cons_zero, List.set_cons_succ, List.length_cons, List.length_nil, List.map_cons, List.map_nil, List.cons_append, List.nil_append, List.replicate, Nat.reduceAdd, Nat.reduceSub, Nat.reduceLT, Nat.reduceLeDiff, Nat.reduceBEq, Nat.beq, Nat.ble, if_true, if_false, ite_true, ite_false, reduceIte, Bool.not_true, Bool.not_false, Bool.or_true, Bool.true_or, Bool.false_or, Bool.or_false, List.getElem?_cons_zero, List.getElem?_cons_succ, b_check_way, e]
/-- no text -/
def BadT (gc : Gc) (T : Tab) (wn k : Nat) (d : D) : Prop := callF gc T wn (k + 1) 3 [d] = ok (.bl false)
variable [Has T 3 b_is_text] [Has T 8 b_check_text]
theorem c_ct_bad {d : D} (h : BadT gc T wn k d) : callF gc T wn (k + 2) 8 [d] = .ret (.ex 1) := by
  rw [call_has b_check_text]
  simp only [runF, exSs, exS, evE, evEs, evO, evT, evR, evRs, bnd, onE, onN, F.bind, op2, rdV, rdVs, lfD, lf, bopD, cmpD, bltD, truD, dats, dats0, isScal, anyR, asg, asgs, endD, sets, noEx, isOwn, add_ii, sub_ii, lt_ii, gt_ii, le_ii, isD, Option.map_some, Option.map_none, Option.bind_some, Option.bind_none, Option.map, Option.bind, List.getD_cons_zero, List.getD_cons_succ, List.set_cons_zero, List.set_cons_succ, List.length_cons, List.length_nil, List.map_cons, List.map_nil, List.cons_append, List.nil_append, List.replicate, Nat.reduceAdd, Nat.reduceSub, Nat.reduceLT, Nat.reduceLeDiff, Nat.reduceBEq, Nat.beq, Nat.ble, if_true, if_false, ite_true, ite_false, reduceIte, Bool.not_true, Bool.not_false, Bool.or_true, Bool.true_or, Bool.false_or, Bool.or_false, List.getElem?_cons_zero, List.getElem?_cons_succ, b_check_text, show callF gc T wn (k + 1) 3 [d] = ok (.bl false) from h]
section
variable {d : D} (hd : d.plains = true) (hw : wayB d = false) (x y : D)
include hd hw
theorem x_write [Has T 32 b_write] : callF gc T wn (k + 4) 32 [d, x] = .ret (.ex 0) := by
  rw [call_has b_write]; simp only [runF, exSs, exS, evE, evEs, evO, evT, evR, evRs, bnd, onE, onN, F.bind, op2, rdV, rdVs, lfD, lf, bopD, cmpD, bltD, truD, dats, dats0, isScal, anyR, asg, asgs, endD, sets, noEx, isOwn, add_ii, sub_ii, lt_ii, gt_ii, le_ii, isD, Option.map_some, Option.map_none, Option.bind_some, Option.bind_none, Option.map, Option.bind, List.getD_cons_zero, List.getD_cons_succ, List.set_cons_zero, List.set_cons_succ, List.length_cons, List.length_nil, List.map_cons, List.map_nil, List.cons_append, List.nil_append, List.replicate, Nat.reduceAdd, Nat.reduceSub, Nat.reduceLT, Nat.reduceLeDiff, Nat.reduceBEq, Nat.beq, Nat.ble, if_true, if_false, ite_true, ite_false, reduceIte, Bool.not_true, Bool.not_false, Bool.or_true, Bool.true_or, Bool.false_or, Bool.or_false, List.getElem?_cons_zero, List.getElem?_cons_succ, b_write, c_cw_bad hd hw]
theorem x_see [Has T 34 b_see] : callF gc T wn (k + 4) 34 [d, x, y] = .ret (.ex 0) := by
  rw [call_has b_see]; simp only [runF, exSs, exS, evE, evEs, evO, evT, evR, evRs, bnd, onE, onN, F.bind, op2, rdV, rdVs, lfD, lf, bopD, cmpD, bltD, truD, dats, dats0, isScal, anyR, asg, asgs, endD, sets, noEx, isOwn, add_ii, sub_ii, lt_ii, gt_ii, le_ii, isD, Option.map_some, Option.map_none, Option.bind_some, Option.bind_none, Option.map, Option.bind, List.getD_cons_zero, List.getD_cons_succ, List.set_cons_zero, List.set_cons_succ, List.length_cons, List.length_nil, List.map_cons, List.map_nil, List.cons_append, List.nil_append, List.replicate, Nat.reduceAdd, Nat.reduceSub, Nat.reduceLT, Nat.reduceLeDiff, Nat.reduceBEq, Nat.beq, Nat.ble, if_true, if_false, ite_true, ite_false, reduceIte, Bool.not_true, Bool.not_false, Bool.or_true, Bool.true_or, Bool.false_or, Bool.or_false, List.getElem?_cons_zero, List.getElem?_cons_succ, b_see, c_cw_bad hd hw]
theorem x_least [Has T 35 b_least_number] : callF gc T wn (k + 4) 35 [d, x] = .ret (.ex 0) := by
  rw [call_has b_least_number]; simp only [runF, exSs, exS, evE, evEs, evO, evT, evR, evRs, bnd, onE, onN, F.bind, op2, rdV, rdVs, lfD, lf, bopD, cmpD, bltD, truD, dats, dats0, isScal, anyR, asg, asgs, endD, sets, noEx, isOwn, add_ii, sub_ii, lt_ii, gt_ii, le_ii, isD, Option.map_some, Option.map_none, Option.bind_some, Option.bind_none, Option.map, Option.bind, List.getD_cons_zero, List.getD_cons_succ, List.set_cons_zero, List.set_cons_succ, List.length_cons, List.length_nil, List.map_cons, List.map_nil, List.cons_append, List.nil_append, List.replicate, Nat.reduceAdd, Nat.reduceSub, Nat.reduceLT, Nat.reduceLeDiff, Nat.reduceBEq, Nat.beq, Nat.ble, if_true, if_false, ite_true, ite_false, reduceIte, Bool.not_true, Bool.not_false, Bool.or_true, Bool.true_or, Bool.false_or, Bool.or_false, List.getElem?_cons_zero, List.getElem?_cons_succ, b_least_number, c_cw_bad hd hw]
theorem x_copies [Has T 27 b_copies] : callF gc T wn (k + 4) 27 [d, x, y] = .ret (.ex 0) := by
  rw [call_has b_copies]; simp only [runF, exSs, exS, evE, evEs, evO, evT, evR, evRs, bnd, onE, onN, F.bind, op2, rdV, rdVs, lfD, lf, bopD, cmpD, bltD, truD, dats, dats0, isScal, anyR, asg, asgs, endD, sets, noEx, isOwn, add_ii, sub_ii, lt_ii, gt_ii, le_ii, isD, Option.map_some, Option.map_none, Option.bind_some, Option.bind_none, Option.map, Option.bind, List.getD_cons_zero, List.getD_cons_succ, List.set_cons_zero, List.set_cons_succ, List.length_cons, List.length_nil, List.map_cons, List.map_nil, List.cons_append, List.nil_append, List.replicate, Nat.reduceAdd, Nat.reduceSub, Nat.reduceLT, Nat.reduceLeDiff, Nat.reduceBEq, Nat.beq, Nat.ble, if_true, if_false, ite_true, ite_false, reduceIte, Bool.not_true, Bool.not_false, Bool.or_true, Bool.true_or, Bool.false_or, Bool.or_false, List.getElem?_cons_zero, List.getElem?_cons_succ, b_copies, c_cw_bad hd hw]
theorem x_best [Has T 25 b_best] : callF gc T wn (k + 4) 25 [d, x, y] = .ret (.ex 0) := by
  rw [call_has b_best]; simp only [runF, exSs, exS, evE, evEs, evO, evT, evR, evRs, bnd, onE, onN, F.bind, op2, rdV, rdVs, lfD, lf, bopD, cmpD, bltD, truD, dats, dats0, isScal, anyR, asg, asgs, endD, sets, noEx, isOwn, add_ii, sub_ii, lt_ii, gt_ii, le_ii, isD, Option.map_some, Option.map_none, Option.bind_some, Option.bind_none, Option.map, Option.bind, List.getD_cons_zero, List.getD_cons_succ, List.set_cons_zero, List.set_cons_succ, List.length_cons, List.length_nil, List.map_cons, List.map_nil, List.cons_append, List.nil_append, List.replicate, Nat.reduceAdd, Nat.reduceSub, Nat.reduceLT, Nat.reduceLeDiff, Nat.reduceBEq, Nat.beq, Nat.ble, if_true, if_false, ite_true, ite_false, reduceIte, Bool.not_true, Bool.not_false, Bool.or_true, Bool.true_or, Bool.false_or, Bool.or_false, List.getElem?_cons_zero, List.getElem?_cons_succ, b_best, c_cw_bad hd hw]
theorem x_joined [Has T 97 b_joined] : callF gc T wn (k + 4) 97 [d, x, y] = .ret (.ex 0) := by
  rw [call_has b_joined]; simp only [runF, exSs, exS, evE, evEs, evO, evT, evR, evRs, bnd, onE, onN, F.bind, op2, rdV, rdVs, lfD, lf, bopD, cmpD, bltD, truD, dats, dats0, isScal, anyR, asg, asgs, endD, sets, noEx, isOwn, add_ii, sub_ii, lt_ii, gt_ii, le_ii, isD, Option.map_some, Option.map_none, Option.bind_some, Option.bind_none, Option.map, Option.bind, List.getD_cons_zero, List.getD_cons_succ, List.set_cons_zero, List.set_cons_succ, List.length_cons, List.length_nil, List.map_cons, List.map_nil, List.cons_append, List.nil_append, List.replicate, Nat.reduceAdd, Nat.reduceSub, Nat.reduceLT, Nat.reduceLeDiff, Nat.reduceBEq, Nat.beq, Nat.ble, if_true, if_false, ite_true, ite_false, reduceIte, Bool.not_true, Bool.not_false, Bool.or_true, Bool.true_or, Bool.false_or, Bool.or_false, List.getElem?_cons_zero, List.getElem?_cons_succ, b_joined, c_cw_bad hd hw]
end
section
variable {w : Way} (hw : w.Ok) {d : D} (hb : BadT gc T wn (k + 1) d) (x y : D)
include hw hb
theorem y_write [Has T 32 b_write] : callF gc T wn (k + 4) 32 [w.d, d] = .ret (.ex 1) := by
  rw [call_has b_write]; simp only [runF, exSs, exS, evE, evEs, evO, evT, evR, evRs, bnd, onE, onN, F.bind, op2, rdV, rdVs, lfD, lf, bopD, cmpD, bltD, truD, dats, dats0, isScal, anyR, asg, asgs, endD, sets, noEx, isOwn, add_ii, sub_ii, lt_ii, gt_ii, le_ii, isD, Option.map_some, Option.map_none, Option.bind_some, Option.bind_none, Option.map, Option.bind, List.getD_cons_zero, List.getD_cons_succ, List.set_cons_zero, List.set_cons_succ, List.length_cons, List.length_nil, List.map_cons, List.map_nil, List.cons_append, List.nil_append, List.replicate, Nat.reduceAdd, Nat.reduceSub, Nat.reduceLT, Nat.reduceLeDiff, Nat.reduceBEq, Nat.beq, Nat.ble, if_true, if_false, ite_true, ite_false, reduceIte, Bool.not_true, Bool.not_false, Bool.or_true, Bool.true_or, Bool.false_or, Bool.or_false, List.getElem?_cons_zero, List.getElem?_cons_succ, b_write, c_check_way (k := k) hw, c_ct_bad hb]
theorem y_see [Has T 34 b_see] : callF gc T wn (k + 4) 34 [w.d, d, y] = .ret (.ex 1) := by
  rw [call_has b_see]; simp only [runF, exSs, exS, evE, evEs, evO, evT, evR, evRs, bnd, onE, onN, F.bind, op2, rdV, rdVs, lfD, lf, bopD, cmpD, bltD, truD, dats, dats0, isScal, anyR, asg, asgs, endD, sets, noEx, isOwn, add_ii, sub_ii, lt_ii, gt_ii, le_ii, isD, Option.map_some, Option.map_none, Option.bind_some, Option.bind_none, Option.map, Option.bind, List.getD_cons_zero, List.getD_cons_succ, List.set_cons_zero, List.set_cons_succ, List.length_cons, List.length_nil, List.map_cons, List.map_nil, List.cons_append, List.nil_append, List.replicate, Nat.reduceAdd, Nat.reduceSub, Nat.reduceLT, Nat.reduceLeDiff, Nat.reduceBEq, Nat.beq, Nat.ble, if_true, if_false, ite_true, ite_false, reduceIte, Bool.not_true, Bool.not_false, Bool.or_true, Bool.true_or, Bool.false_or, Bool.or_false, List.getElem?_cons_zero, List.getElem?_cons_succ, b_see, c_check_way (k := k) hw, c_ct_bad hb]
theorem y_least [Has T 35 b_least_number] : callF gc T wn (k + 4) 35 [w.d, d] = .ret (.ex 1) := by
  rw [call_has b_least_number]; simp only [runF, exSs, exS, evE, evEs, evO, evT, evR, evRs, bnd, onE, onN, F.bind, op2, rdV, rdVs, lfD, lf, bopD, cmpD, bltD, truD, dats, dats0, isScal, anyR, asg, asgs, endD, sets, noEx, isOwn, add_ii, sub_ii, lt_ii, gt_ii, le_ii, isD, Option.map_some, Option.map_none, Option.bind_some, Option.bind_none, Option.map, Option.bind, List.getD_cons_zero, List.getD_cons_succ, List.set_cons_zero, List.set_cons_succ, List.length_cons, List.length_nil, List.map_cons, List.map_nil, List.cons_append, List.nil_append, List.replicate, Nat.reduceAdd, Nat.reduceSub, Nat.reduceLT, Nat.reduceLeDiff, Nat.reduceBEq, Nat.beq, Nat.ble, if_true, if_false, ite_true, ite_false, reduceIte, Bool.not_true, Bool.not_false, Bool.or_true, Bool.true_or, Bool.false_or, Bool.or_false, List.getElem?_cons_zero, List.getElem?_cons_succ, b_least_number, c_check_way (k := k) hw, c_ct_bad hb]
theorem y_copies [Has T 27 b_copies] : callF gc T wn (k + 4) 27 [w.d, d, y] = .ret (.ex 1) := by
  rw [call_has b_copies]; simp only [runF, exSs, exS, evE, evEs, evO, evT, evR, evRs, bnd, onE, onN, F.bind, op2, rdV, rdVs, lfD, lf, bopD, cmpD, bltD, truD, dats, dats0, isScal, anyR, asg, asgs, endD, sets, noEx, isOwn, add_ii, sub_ii, lt_ii, gt_ii, le_ii, isD, Option.map_some, Option.map_none, Option.bind_some, Option.bind_none, Option.map, Option.bind, List.getD_cons_zero, List.getD_cons_succ, List.set_cons_zero, List.set_cons_succ, List.length_cons, List.length_nil, List.map_cons, List.map_nil, List.cons_append, List.nil_append, List.replicate, Nat.reduceAdd, Nat.reduceSub, Nat.reduceLT, Nat.reduceLeDiff, Nat.reduceBEq, Nat.beq, Nat.ble, if_true, if_false, ite_true, ite_false, reduceIte, Bool.not_true, Bool.not_false, Bool.or_true, Bool.true_or, Bool.false_or, Bool.or_false, List.getElem?_cons_zero, List.getElem?_cons_succ, b_copies, c_check_way (k := k) hw, c_ct_bad hb]
theorem y_joined1 [Has T 97 b_joined] : callF gc T wn (k + 4) 97 [w.d, d, y] = .ret (.ex 1) := by
  rw [call_has b_joined]; simp only [runF, exSs, exS, evE, evEs, evO, evT, evR, evRs, bnd, onE, onN, F.bind, op2, rdV, rdVs, lfD, lf, bopD, cmpD, bltD, truD, dats, dats0, isScal, anyR, asg, asgs, endD, sets, noEx, isOwn, add_ii, sub_ii, lt_ii, gt_ii, le_ii, isD, Option.map_some, Option.map_none, Option.bind_some, Option.bind_none, Option.map, Option.bind, List.getD_cons_zero, List.getD_cons_succ, List.set_cons_zero, List.set_cons_succ, List.length_cons, List.length_nil, List.map_cons, List.map_nil, List.cons_append, List.nil_append, List.replicate, Nat.reduceAdd, Nat.reduceSub, Nat.reduceLT, Nat.reduceLeDiff, Nat.reduceBEq, Nat.beq, Nat.ble, if_true, if_false, ite_true, ite_false, reduceIte, Bool.not_true, Bool.not_false, Bool.or_true, Bool.true_or, Bool.false_or, Bool.or_false, List.getElem?_cons_zero, List.getElem?_cons_succ, b_joined, c_check_way (k := k) hw, c_ct_bad hb]
theorem y_joined2 [Has T 97 b_joined] {s : List Nat} (hs : AB s) (hl : s.length ≤ 24) : callF gc T wn (k + 4) 97 [w.d, .str s, d] = .ret (.ex 1) := by
  rw [call_has b_joined]; simp only [runF, exSs, exS, evE, evEs, evO, evT, evR, evRs, bnd, onE, onN, F.bind, op2, rdV, rdVs, lfD, lf, bopD, cmpD, bltD, truD, dats, dats0, isScal, anyR, asg, asgs, endD, sets, noEx, isOwn, add_ii, sub_ii, lt_ii, gt_ii, le_ii, isD, Option.map_some, Option.map_none, Option.bind_some, Option.bind_none, Option.map, Option.bind, List.getD_cons_zero, List.getD_cons_succ, List.set_cons_zero, List.set_cons_succ, List.length_cons, List.length_nil, List.map_cons, List.map_nil, List.cons_append, List.nil_append, List.replicate, Nat.reduceAdd, Nat.reduceSub, Nat.reduceLT, Nat.reduceLeDiff, Nat.reduceBEq, Nat.beq, Nat.ble, if_true, if_false, ite_true, ite_false, reduceIte, Bool.not_true, Bool.not_false, Bool.or_true, Bool.true_or, Bool.false_or, Bool.or_false, List.getElem?_cons_zero, List.getElem?_cons_succ, b_joined, c_check_way (k := k) hw, c_check_text (k := k + 1) hs hl, c_ct_bad hb]
end
section
variable {w : Way} (hw : w.Ok) {s : List Nat} (hs : AB s) (hl : s.length ≤ 24)
include hw hs hl
theorem z_place [Has T 7 b_check_place] {p : D} (hp : p.plain = true) (hb : betB p 0 ((s.length : Int) - 1) = false) : callF gc T wn (k + 2) 7 [.str s, p] = .ret (.ex 3) := by
  rw [call_has b_check_place]
  have e := c_bet (gc := gc) (T := T) (wn := wn) (k := k) p hp 0 ((s.length : Int) - 1)
  rw [hb] at e
  simp only [runF, exSs, exS, evE, evEs, evO, evT, evR, evRs, bnd, onE, onN, F.bind, op2, rdV, rdVs, lfD, lf, bopD, cmpD, bltD, truD, dats, dats0, isScal, anyR, asg, asgs, endD, sets, noEx, isOwn, add_ii, sub_ii, lt_ii, gt_ii, le_ii, isD, Option.map_some, Option.map_none, Option.bind_some, Option.bind_none, Option.map, Option.bind, List.getD_cons_zero, List.getD_cons_succ, List.set_cons_zero, List.set_cons_succ, List.length_cons, List.length_nil, List.map_cons, List.map_nil, List.cons_append, List.nil_append, List.replicate, Nat.reduceAdd, Nat.reduceSub, Nat.reduceLT, Nat.reduceLeDiff, Nat.reduceBEq, Nat.beq, Nat.ble, if_true, if_false, ite_true, ite_false, reduceIte, Bool.not_true, Bool.not_false, Bool.or_true, Bool.true_or, Bool.false_or, Bool.or_false, List.getElem?_cons_zero, List.getElem?_cons_succ, b_check_place, len_str (show s.length ≤ 1000 by omega), e]
theorem z_copies [Has T 7 b_check_place] [Has T 27 b_copies] {p : D} (hp : p.plain = true) (hb : betB p 0 ((s.length : Int) - 1) = false) : callF gc T wn (k + 4) 27 [w.d, .str s, p] = .ret (.ex 3) := by
  rw [call_has b_copies]; simp only [runF, exSs, exS, evE, evEs, evO, evT, evR, evRs, bnd, onE, onN, F.bind, op2, rdV, rdVs, lfD, lf, bopD, cmpD, bltD, truD, dats, dats0, isScal, anyR, asg, asgs, endD, sets, noEx, isOwn, add_ii, sub_ii, lt_ii, gt_ii, le_ii, isD, Option.map_some, Option.map_none, Option.bind_some, Option.bind_none, Option.map, Option.bind, List.getD_cons_zero, List.getD_cons_succ, List.set_cons_zero, List.set_cons_succ, List.length_cons, List.length_nil, List.map_cons, List.map_nil, List.cons_append, List.nil_append, List.replicate, Nat.reduceAdd, Nat.reduceSub, Nat.reduceLT, Nat.reduceLeDiff, Nat.reduceBEq, Nat.beq, Nat.ble, if_true, if_false, ite_true, ite_false, reduceIte, Bool.not_true, Bool.not_false, Bool.or_true, Bool.true_or, Bool.false_or, Bool.or_false, List.getElem?_cons_zero, List.getElem?_cons_succ, b_copies, c_check_way (k := k) hw, c_check_text (k := k + 1) hs hl, z_place (k := k + 1) hw hs hl hp hb]
theorem z_best [Has T 7 b_check_place] [Has T 25 b_best] {p : D} (hp : p.plain = true) (hb : betB p 0 ((s.length : Int) - 1) = false) : callF gc T wn (k + 4) 25 [w.d, .str s, p] = .ret (.ex 3) := by
  rw [call_has b_best]; simp only [runF, exSs, exS, evE, evEs, evO, evT, evR, evRs, bnd, onE, onN, F.bind, op2, rdV, rdVs, lfD, lf, bopD, cmpD, bltD, truD, dats, dats0, isScal, anyR, asg, asgs, endD, sets, noEx, isOwn, add_ii, sub_ii, lt_ii, gt_ii, le_ii, isD, Option.map_some, Option.map_none, Option.bind_some, Option.bind_none, Option.map, Option.bind, List.getD_cons_zero, List.getD_cons_succ, List.set_cons_zero, List.set_cons_succ, List.length_cons, List.length_nil, List.map_cons, List.map_nil, List.cons_append, List.nil_append, List.replicate, Nat.reduceAdd, Nat.reduceSub, Nat.reduceLT, Nat.reduceLeDiff, Nat.reduceBEq, Nat.beq, Nat.ble, if_true, if_false, ite_true, ite_false, reduceIte, Bool.not_true, Bool.not_false, Bool.or_true, Bool.true_or, Bool.false_or, Bool.or_false, List.getElem?_cons_zero, List.getElem?_cons_succ, b_best, c_check_way (k := k) hw, c_check_text (k := k + 1) hs hl, z_place (k := k + 1) hw hs hl hp hb]
theorem z_see [Has T 18 b_check_sight] [Has T 34 b_see] [hS : HasG gc 2 SIGHTSd] {p : D} (hp : p.plain = true) (hb : wordB p SIGHTSl = false) : callF gc T wn (k + 4) 34 [w.d, .str s, p] = .ret (.ex 2) := by
  have e : callF gc T wn (k + 2) 0 [p, SIGHTSd] = _ := c_word p hp SIGHTSl
  rw [hb] at e
  have e2 : callF gc T wn (k + 3) 18 [p] = .ret (.ex 2) := by
    rw [call_has b_check_sight]; simp only [runF, exSs, exS, evE, evEs, evO, evT, evR, evRs, bnd, onE, onN, F.bind, op2, rdV, rdVs, lfD, lf, bopD, cmpD, bltD, truD, dats, dats0, isScal, anyR, asg, asgs, endD, sets, noEx, isOwn, add_ii, sub_ii, lt_ii, gt_ii, le_ii, isD, Option.map_some, Option.map_none, Option.bind_some, Option.bind_none, Option.map, Option.bind, List.getD_cons_zero, List.getD_cons_succ, List.set_cons_zero, List.set_cons_succ, List.length_cons, List.length_nil, List.map_cons, List.map_nil, List.cons_append, List.nil_append, List.replicate, Nat.reduceAdd, Nat.reduceSub, Nat.reduceLT, Nat.reduceLeDiff, Nat.reduceBEq, Nat.beq, Nat.ble, if_true, if_false, ite_true, ite_false, reduceIte, Bool.not_true, Bool.not_false, Bool.or_true, Bool.true_or, Bool.false_or, Bool.or_false, List.getElem?_cons_zero, List.getElem?_cons_succ, b_check_sight, hS.h, e]
  rw [call_has b_see]; simp only [runF, exSs, exS, evE, evEs, evO, evT, evR, evRs, bnd, onE, onN, F.bind, op2, rdV, rdVs, lfD, lf, bopD, cmpD, bltD, truD, dats, dats0, isScal, anyR, asg, asgs, endD, sets, noEx, isOwn, add_ii, sub_ii, lt_ii, gt_ii, le_ii, isD, Option.map_some, Option.map_none, Option.bind_some, Option.bind_none, Option.map, Option.bind, List.getD_cons_zero, List.getD_cons_succ, List.set_cons_zero, List.set_cons_succ, List.length_cons, List.length_nil, List.map_cons, List.map_nil, List.cons_append, List.nil_append, List.replicate, Nat.reduceAdd, Nat.reduceSub, Nat.reduceLT, Nat.reduceLeDiff, Nat.reduceBEq, Nat.beq, Nat.ble, if_true, if_false, ite_true, ite_false, reduceIte, Bool.not_true, Bool.not_false, Bool.or_true, Bool.true_or, Bool.false_or, Bool.or_false, List.getElem?_cons_zero, List.getElem?_cons_succ, b_see, c_check_way (k := k) hw, c_check_text (k := k + 1) hs hl, e2]
end
end
end
end Bk
namespace Bk
open PySem PySem.Spec PyProof.Rows L2
def b__law_is : Fn := ⟨2, 2, (.cons (.ret (.and (.isi .bool (.var 0)) (.cmp .eq (.var 0) (.var 1)))) .nil)⟩
def b__law_odd : Fn := ⟨3, 6, (.cons (.put 3 (.ex (.cal 19 (.cons (.var 0) (.cons (.var 1) (.cons (.cst (.int 6)) .nil)))))) (.cons (.put 4 (.ex (.sub (.tup (.cons (.cst (.int 0)) (.cons (.cst (.int 1)) (.cons (.cst (.int 5)) (.cons (.cst (.bl true)) (.cons (.cst (.str [110, 111, 119, 32])) (.cons (.cst .non) (.cons (.cst (.str [110, 101, 97, 114])) (.cons (.tup (.cons (.cst (.int 2)) .nil)) (.cons (.neg (.cst (.int 1))) .nil)))))))))) (.cal 19 (.cons (.var 0) (.cons (.var 1) (.cons (.cst (.int 9)) .nil))))))) (.cons (.put 5 (.ex (.lst (.cons (.slc (.var 2) .no (.so (.neg (.cst (.int 1))))) (.cons (.bop .add (.var 2) (.tup (.cons (.cst (.str [110, 101, 97, 114])) .nil))) (.cons (.blt .list (.cons (.var 2) .nil)) (.cons (.cst .non) (.cons (.cst (.str [110, 111, 119])) (.cons (.cst (.int 3)) (.cons (.tup .nil) (.cons (.tup (.cons (.cst (.str [110, 111, 119])) (.cons (.cst (.int 3)) (.cons (.cst (.int 3)) (.cons (.cst (.int 2)) (.cons (.cst (.int 1)) (.cons (.cst (.str [110, 101, 97, 114])) .nil))))))) .nil))))))))))) (.cons (.put 5 (.ex (.bop .add (.var 5) (.lst (.cons (.bop .add (.bop .add (.slc (.var 2) .no (.so (.var 3))) (.tup (.cons (.var 4) .nil))) (.slc (.var 2) (.so (.bop .add (.var 3) (.cst (.int 1)))) .no)) (.cons (.bop .add (.bop .add (.slc (.var 2) .no (.so (.var 3))) (.tup (.cons (.var 4) .nil))) (.slc (.var 2) (.so (.bop .add (.var 3) (.cst (.int 1)))) .no)) .nil)))))) (.cons (.ret (.sub (.var 5) (.cal 19 (.cons (.var 0) (.cons (.var 1) (.cons (.blt .len (.cons (.var 5) .nil)) .nil)))))) .nil)))))⟩
def b__law_bad : Fn := ⟨2, 3, (.cons (.put 2 (.ex (.tup (.cons (.cst (.str [99])) (.cons (.cst (.str [65])) (.cons (.cst (.str [97, 32, 98])) (.cons (.cst .non) (.cons (.cst (.int 3)) (.cons (.lst (.cons (.cst (.str [97])) .nil)) (.cons (.tup (.cons (.cst (.str [97])) .nil)) (.cons (.bop .mul (.cst (.str [97, 98])) (.cst (.int 13))) (.cons (.cst (.str [97, 10])) (.cons (.cst (.bl true)) (.cons (.cst (.str [97, 66])) (.cons (.cst (.str [48])) .nil))))))))))))))) (.cons (.ret (.sub (.var 2) (.cal 19 (.cons (.var 0) (.cons (.var 1) (.cons (.blt .len (.cons (.var 2) .nil)) .nil)))))) .nil))⟩
def b__law_orders : Fn := ⟨4, 5, (.cons (.put 4 (.new (.cons (.res (.cal 32 (.cons (.var 1) (.cons (.var 2) .nil)))) .nil))) (.cons (.app 4 (.res (.cal 34 (.cons (.var 1) (.cons (.var 2) (.cons (.cst (.str [110, 111, 110, 101])) .nil)))))) (.cons (.app 4 (.res (.cal 35 (.cons (.var 1) (.cons (.var 2) .nil))))) (.cons (.app 4 (.res (.cal 27 (.cons (.var 1) (.cons (.var 2) (.cons (.neg (.cst (.int 1))) .nil)))))) (.cons (.app 4 (.res (.cal 25 (.cons (.var 1) (.cons (.var 2) (.cons (.neg (.cst (.int 1))) .nil)))))) (.cons (.app 4 (.res (.cal 97 (.cons (.var 1) (.cons (.var 2) (.cons (.var 2) .nil)))))) (.cons (.ife (.val (.cmp .ne (.var 4) (.bop .mul (.lst (.cons (.tup (.cons (.cst (.str [114, 117, 108, 101])) .nil)) .nil)) (.cst (.int 6))))) (.cons (.ret (.cst (.bl false))) .nil) .nil) (.cons (.put 4 (.new (.cons (.res (.cal 32 (.cons (.var 0) (.cons (.var 2) .nil)))) .nil))) (.cons (.app 4 (.res (.cal 34 (.cons (.var 0) (.cons (.var 2) (.cons (.cst (.str [110, 111, 110, 101])) .nil)))))) (.cons (.app 4 (.res (.cal 35 (.cons (.var 0) (.cons (.var 2) .nil))))) (.cons (.app 4 (.res (.cal 27 (.cons (.var 0) (.cons (.var 2) (.cons (.neg (.cst (.int 1))) .nil)))))) (.cons (.app 4 (.res (.cal 97 (.cons (.var 0) (.cons (.var 2) (.cons (.var 3) .nil)))))) (.cons (.app 4 (.res (.cal 97 (.cons (.var 0) (.cons (.var 3) (.cons (.var 2) .nil)))))) (.cons (.ret (.cmp .eq (.var 4) (.bop .mul (.lst (.cons (.tup (.cons (.cst (.str [108, 105, 110, 101])) .nil)) .nil)) (.cst (.int 6))))) .nil))))))))))))))⟩
def s_law_0 : Ss := (.cons (.par [6, 7] [(.ex (.cal 23 (.cons (.var 0) (.cons (.var 1) (.cons (.tup (.cons (.cst (.str [110, 111, 119])) (.cons (.cst (.str [110, 101, 120, 116])) (.cons (.cst (.str [116, 119, 111])) (.cons (.cst (.str [102, 101, 119, 101, 115, 116])) .nil))))) .nil))))), (.ex (.cal 28 (.cons (.var 0) (.cons (.var 1) (.cons (.cst (.int 24)) .nil)))))]) (.cons (.par [8, 9] [(.ex (.cal 109 (.cons (.var 0) (.cons (.var 1) (.cons (.var 6) .nil))))), (.ex (.cal 110 (.cons (.var 0) (.cons (.var 1) .nil))))]) (.cons (.ife (.not (.val (.cal 108 (.cons (.cal 2 (.cons (.var 6) .nil)) (.cons (.cst (.bl true)) .nil))))) (.cons (.ret (.cst (.bl false))) .nil) .nil) (.cons (.ife (.not (.val (.cal 108 (.cons (.cal 3 (.cons (.var 7) .nil)) (.cons (.cst (.bl true)) .nil))))) (.cons (.ret (.cst (.bl false))) .nil) .nil) (.cons (.ife (.not (.val (.cal 108 (.cons (.cak 3 .nil (.cons (.var 9) .nil)) (.cons (.cst (.bl false)) .nil))))) (.cons (.ret (.cst (.bl false))) .nil) .nil) (.cons (.put 3 (.ex (.cak 2 .nil (.cons (.var 8) .nil)))) (.cons (.ife (.and (.val (.cmp .isin (.var 8) (.tup (.cons (.slc (.var 6) .no (.so (.neg (.cst (.int 1))))) (.cons (.blt .list (.cons (.var 6) .nil)) .nil))))) (.val (.var 3))) (.cons (.ret (.cst (.bl false))) .nil) .nil) (.cons (.ife (.and (.not (.val (.var 3))) (.not (.val (.cal 107 (.cons (.var 6) (.cons (.var 8) (.cons (.var 9) (.cons (.var 7) .nil)))))))) (.cons (.ret (.cst (.bl false))) .nil) .nil) (.cons (.put 4 (.ex (.sub (.tup (.cons (.neg (.cst (.int 1))) (.cons (.blt .len (.cons (.var 7) .nil)) (.cons (.cst (.bl true)) (.cons (.cst .non) (.cons (.cst (.str [48])) (.cons (.cst (.int 24)) .nil))))))) (.cal 19 (.cons (.var 0) (.cons (.var 1) (.cons (.cst (.int 6)) .nil))))))) (.cons (.ife (.or (.and (.val (.cmp .is (.var 4) (.cst (.bl true)))) (.val (.cmp .gt (.blt .len (.cons (.var 7) .nil)) (.cst (.int 1))))) (.and (.val (.cmp .eq (.var 4) (.cst (.int 24)))) (.val (.cmp .gt (.blt .len (.cons (.var 7) .nil)) (.cst (.int 24)))))) (.cons (.put 4 (.ex (.neg (.cst (.int 1))))) .nil) .nil) (.cons (.ife (.val (.cmp .ne (.res (.cal 27 (.cons (.var 6) (.cons (.var 7) (.cons (.var 4) .nil))))) (.tup (.cons (.cst (.str [115, 112, 111, 116])) .nil)))) (.cons (.ret (.cst (.bl false))) .nil) .nil) (.cons (.ife (.val (.cmp .ne (.res (.cal 25 (.cons (.var 6) (.cons (.var 7) (.cons (.var 4) .nil))))) (.tup (.cons (.cst (.str [115, 112, 111, 116])) .nil)))) (.cons (.ret (.cst (.bl false))) .nil) .nil) (.cons (.put 5 (.ex (.sub (.tup (.cons (.cst (.str [110, 111, 110, 101])) (.cons (.cst .non) (.cons (.cst (.bl true)) (.cons (.cst (.str [97, 108, 111, 110, 103])) (.cons (.tup (.cons (.cst (.str [116, 111, 107, 101, 110, 115])) .nil)) .nil)))))) (.cal 19 (.cons (.var 0) (.cons (.var 1) (.cons (.cst (.int 5)) .nil))))))) (.cons (.ife (.val (.cmp .ne (.res (.cal 34 (.cons (.var 6) (.cons (.var 7) (.cons (.var 5) .nil))))) (.tup (.cons (.cst (.str [115, 105, 100, 101])) .nil)))) (.cons (.ret (.cst (.bl false))) .nil) .nil) .nil))))))))))))))
def b_law : Fn := ⟨1, 10, (.cons (.put 1 (.ex (.cal 20 .nil))) (.cons (.for_ (.nm 2) (.rg1 (.cst (.int 8))) s_law_0) (.cons (.ife (.or (.not (.val (.cal 2 (.cons (.tup (.cons (.cst (.str [110, 111, 119])) (.cons (.cst (.int 4)) (.cons (.cst (.int 3)) (.cons (.cst (.int 4)) (.cons (.cst (.int 0)) (.cons (.cst (.str [102, 97, 114])) .nil))))))) .nil)))) (.val (.cal 2 (.cons (.tup (.cons (.cst (.str [110, 111, 119])) (.cons (.cst (.int 5)) (.cons (.cst (.int 2)) (.cons (.cst (.int 4)) (.cons (.cst (.int 0)) (.cons (.cst (.str [102, 97, 114])) .nil))))))) .nil)))) (.cons (.ret (.cst (.bl false))) .nil) .nil) (.cons (.ife (.or (.val (.cal 2 (.cons (.tup (.cons (.cst (.str [110, 101, 120, 116])) (.cons (.cst (.int 3)) (.cons (.cst (.int 3)) (.cons (.cst (.int 2)) (.cons (.cst (.int 1)) (.cons (.cst (.str [110, 101, 97, 114])) .nil))))))) .nil))) (.val (.cal 2 (.cons (.tup (.cons (.cst (.str [110, 111, 119])) (.cons (.cst (.int 2)) (.cons (.cst (.int 1)) (.cons (.cst (.int 2)) (.cons (.cst (.int 1)) (.cons (.cst (.str [110, 101, 97, 114])) .nil))))))) .nil)))) (.cons (.ret (.cst (.bl false))) .nil) .nil) (.cons (.ret (.not (.cal 2 (.cons (.tup (.cons (.cst (.str [110, 111, 119])) (.cons (.cst (.int 2)) (.cons (.cst (.int 2)) (.cons (.cst (.int 2)) (.cons (.cst (.bl true)) (.cons (.cst (.str [102, 97, 114])) .nil))))))) .nil)))) .nil)))))⟩
def gc : Gc
  | 1 => (.tup [(.str [102, 101, 119, 101, 115, 116]), (.str [110, 101, 120, 116]), (.str [110, 111, 119]), (.str [116, 119, 111])])
  | 0 => (.tup [(.str [102, 97, 114]), (.str [110, 101, 97, 114])])
  | 2 => (.tup [(.str [108, 101, 110, 103, 116, 104, 115]), (.str [110, 117, 109, 98, 101, 114]), (.str [116, 111, 107, 101, 110, 115])])
  | _ => .non
def tab : Tab := [(1, .fn b_is_between), (0, .fn b_is_word), (2, .fn b_is_way), (9, .fn b_check_way), (3, .fn b_is_text), (8, .fn b_check_text), (18, .fn b_check_sight), (4, .fn b_length_at), (5, .fn b_copies_of), (6, .fn b_best_of), (10, .fn b_cover_of), (7, .fn b_check_place), (27, .fn b_copies), (25, .fn b_best), (12, .fn b_size_of), (11, .fn b_leaves_out), (14, .fn b_token_at), (15, .fn b_rests_of), (13, .fn b_fewest_at), (16, .fn b_tokens_of), (17, .fn b_seen_of), (32, .fn b_write), (34, .fn b_see), (35, .fn b_least_number), (97, .fn b_joined), (19, .drw), (20, .beg), (108, .fn b__law_is), (23, .fn b__law_rule), (28, .fn b__law_line), (109, .fn b__law_odd), (110, .fn b__law_bad), (107, .fn b__law_orders), (106, .fn b_law)]
def gFn : Nat → Str
  | 1 => "is_between"
  | 0 => "is_word"
  | 2 => "is_way"
  | 9 => "check_way"
  | 3 => "is_text"
  | 8 => "check_text"
  | 18 => "check_sight"
  | 4 => "length_at"
  | 5 => "copies_of"
  | 6 => "best_of"
  | 10 => "cover_of"
  | 7 => "check_place"
  | 27 => "copies"
  | 25 => "best"
  | 12 => "size_of"
  | 11 => "leaves_out"
  | 14 => "token_at"
  | 15 => "rests_of"
  | 13 => "fewest_at"
  | 16 => "tokens_of"
  | 17 => "seen_of"
  | 32 => "write"
  | 34 => "see"
  | 35 => "least_number"
  | 97 => "joined"
  | 19 => "_law_draw"
  | 20 => "_law_begun"
  | 108 => "_law_is"
  | 23 => "_law_rule"
  | 28 => "_law_line"
  | 109 => "_law_odd"
  | 110 => "_law_bad"
  | 107 => "_law_orders"
  | 106 => "law"
  | _ => ""
def gGn : Nat → Str
  | 1 => "LOOKS"
  | 0 => "TIES"
  | 2 => "SIGHTS"
  | _ => ""
def gEn : Nat → Str
  | 12 => "CopyError"
  | 0 => "InvalidWay"
  | 4 => "InvalidWays"
  | 1 => "InvalidText"
  | 3 => "InvalidPlace"
  | 5 => "InvalidTokens"
  | 8 => "InvalidLengths"
  | 2 => "InvalidSight"
  | 10 => "InvalidNumber"
  | 13 => "InvalidLetter"
  | 11 => "InvalidLine"
  | 6 => "NeverSure"
  | 7 => "Alike"
  | 9 => "NotWritten"
  | 14 => "TooMany"
  | 15 => "Ended"
  | 16 => "NothingToUndo"
  | _ => ""
def gPs : Nat → List Str
  | 1 => ["value", "low", "high"]
  | 0 => ["value", "words"]
  | 2 => ["value"]
  | 9 => ["way"]
  | 3 => ["value"]
  | 8 => ["text"]
  | 18 => ["sight"]
  | 4 => ["text", "place", "back", "most"]
  | 5 => ["way", "text", "place"]
  | 6 => ["way", "text", "place"]
  | 10 => ["way", "text", "place"]
  | 7 => ["text", "place"]
  | 27 => ["way", "text", "place"]
  | 25 => ["way", "text", "place"]
  | 12 => ["token"]
  | 11 => ["way", "text", "place", "copy"]
  | 14 => ["way", "text", "place"]
  | 15 => ["way", "text"]
  | 13 => ["way", "text", "place", "rests"]
  | 16 => ["way", "text"]
  | 17 => ["tokens", "sight"]
  | 32 => ["way", "text"]
  | 34 => ["way", "text", "sight"]
  | 35 => ["way", "text"]
  | 97 => ["way", "one", "other"]
  | 19 => ["script", "town", "many"]
  | 20 => []
  | 108 => ["found", "expected"]
  | 23 => ["script", "town", "words"]
  | 28 => ["script", "town", "most"]
  | 109 => ["script", "town", "rule"]
  | 110 => ["script", "town"]
  | 107 => ["rule", "odd", "bad", "line"]
  | 106 => ["script"]
  | _ => []
def G : Nm := ⟨gFn, gGn, gEn, gPs, [1, 0, 2, 9, 3, 8, 18, 4, 5, 6, 10, 7, 27, 25, 12, 11, 14, 15, 13, 16, 17, 32, 34, 35, 97, 19, 20, 108, 23, 28, 109, 110, 107, 106], [1, 0, 2], [12, 0, 4, 1, 3, 5, 8, 2, 10, 13, 11, 6, 7, 9, 14, 15, 16], [2, 3], true, false⟩
def top (i : Nat) : Stmt := PySem.Challenge.pw_backcopies_k01_not_ways.main.body.getD i (.Pass ⟨0, 0, 0, 0⟩)
def dd (x : Str) (i : Nat) : He.DefD := ⟨(x, none), x, x, defArgs (top i), defBody (top i), defScope (top i), [], []⟩
def hFn : List He.DefD := [dd "is_between" 22, dd "is_word" 23, dd "is_way" 24, dd "check_way" 25, dd "is_text" 26, dd "check_text" 27, dd "check_sight" 28, dd "length_at" 30, dd "copies_of" 31, dd "best_of" 32, dd "cover_of" 33, dd "check_place" 34, dd "copies" 35, dd "best" 36, dd "size_of" 37, dd "leaves_out" 39, dd "token_at" 40, dd "rests_of" 41, dd "fewest_at" 42, dd "tokens_of" 43, dd "seen_of" 44, dd "write" 45, dd "see" 46, dd "least_number" 47, dd "joined" 49, dd "_law_draw" 51, dd "_law_begun" 52, dd "_law_is" 53, dd "_law_rule" 55, dd "_law_line" 56, dd "_law_odd" 57, dd "_law_bad" 58, dd "_law_orders" 59, dd "law" 60, dd "_law_result" 54]
def hFa0 : List He.Fa := [.glo "is_between", .glo "is_word", .glo "is_way", .glo "check_way", .glo "is_text", .glo "check_text", .glo "check_sight", .glo "length_at", .glo "copies_of", .glo "best_of", .glo "cover_of", .glo "check_place", .glo "copies", .glo "best", .glo "size_of", .glo "leaves_out", .glo "token_at", .glo "rests_of", .glo "fewest_at", .glo "tokens_of", .glo "seen_of", .glo "write", .glo "see", .glo "least_number", .glo "joined", .glo "_law_draw", .glo "_law_begun", .glo "_law_is", .glo "_law_rule", .glo "_law_line"]
def hFa1 : List He.Fa := [.glo "_law_odd", .glo "_law_bad", .glo "_law_orders", .glo "law", .free "len", .free "min", .free "max", .free "sum", .free "all", .free "any", .free "tuple", .free "list", .free "abs", .free "str", .free "int", .free "bool", .free "isinstance", .free "range", .free "enumerate", .free "zip", .free "sorted", .free "set", .free "dict", .glo "LOOKS", .glo "TIES", .glo "SIGHTS", .glo "CopyError", .glo "InvalidWay", .glo "InvalidWays", .glo "InvalidText"]
def hFa2 : List He.Fa := [.glo "InvalidPlace", .glo "InvalidTokens", .glo "InvalidLengths", .glo "InvalidSight", .glo "InvalidNumber", .glo "InvalidLetter", .glo "InvalidLine", .glo "NeverSure", .glo "Alike", .glo "NotWritten", .glo "TooMany", .glo "Ended", .glo "NothingToUndo", .exc "CopyError", .exc "InvalidWay", .exc "InvalidWays", .exc "InvalidText", .exc "InvalidPlace", .exc "InvalidTokens", .exc "InvalidLengths", .exc "InvalidSight", .exc "InvalidNumber", .exc "InvalidLetter", .exc "InvalidLine", .exc "NeverSure", .exc "Alike", .exc "NotWritten", .exc "TooMany", .exc "Ended", .exc "NothingToUndo"]
def hFa3 : List He.Fa := [.glo "_law_result", .free "ValueError"]
def hFa : List He.Fa := hFa0 ++ hFa1 ++ hFa2 ++ hFa3
def hTf : List Str := ["law", "_law_orders"]
def hEx (K : PySem.W.Frag) : Bool := resAll K && tbU K && decide (tdf K = hTf) && He.tupB K "LOOKS" [.str "fewest", .str "next", .str "now", .str "two"] && He.tupB K "TIES" [.str "far", .str "near"] && He.tupB K "SIGHTS" [.str "lengths", .str "number", .str "tokens"]
def loose0 : List Str := ["is_between", "is_word", "is_way", "check_way", "is_text", "check_text", "check_sight", "length_at", "copies_of", "best_of", "cover_of", "check_place", "copies", "best", "size_of", "leaves_out", "token_at", "rests_of", "fewest_at", "tokens_of", "seen_of", "write", "see", "least_number", "joined", "_law_draw", "_law_begun", "_law_is", "_law_result", "_law_rule"]
def loose1 : List Str := ["_law_line", "_law_odd", "_law_bad", "_law_orders", "CopyError", "InvalidWay", "InvalidWays", "InvalidText", "InvalidPlace", "InvalidTokens", "InvalidLengths", "InvalidSight", "InvalidNumber", "InvalidLetter", "InvalidLine", "NeverSure", "Alike", "NotWritten", "TooMany", "Ended", "NothingToUndo", "LOOKS", "TIES", "SIGHTS", "__name__"]
def loose : List Str := loose0 ++ loose1
abbrev hRow : PySem.W.OpenRow := PySem.W.OpenLaw.row PySem.Challenge.rw_backcopies_k01_not_ways
abbrev hTd : List He.Defn := hTf.map fun x => (x, none)
abbrev hk : PySem.W.Hook := He.hookX 5 hFa hFn [] hTd hEx
def ob (s : PySem.W.SharedT) : He.AlX := He.obsX 5 hFa hFn [] hTd hEx (HandSHeadRun.getT s)
theorem ob_eq (s : PySem.W.SharedT) : ob s = hk.obs s.abs := He.obsX_eq (HandSHeadRun.getT_eq s)
theorem hRun (w : World) : HandSHeadRun.RunEq hRow (PySem.W.view hRow.prog [60]) hk ob 12000 loose w := by
  intro os
  kernel_rfl
section
variable {w : World} {h : Heap} {K : PySem.W.Frag} {mg : Str → Option Value}
abbrev LP : Program := PySem.Challenge.rw_backcopies_k01_not_ways.prog
theorem hex_ok (c : He.SaysX hFa hFn [] hTd hEx w h K) : (resAll K = true ∧ tbU K = true ∧ tdf K = hTf) := by
  have hx : hEx K = true := c.more
  unfold hEx at hx
  simp only [Bool.and_eq_true, decide_eq_true_eq] at hx
  obtain ⟨⟨⟨⟨⟨r1, r2⟩, r3⟩, x0⟩, x1⟩, x2⟩ := hx
  exact ⟨r1, r2, r3⟩
theorem tdf_in (c : He.SaysX hFa hFn [] hTd hEx w h K) (x : Str) (hx : x ∈ hTf) : x ∈ tdf K := by
  rw [(hex_ok c).2.2]
  exact hx
theorem f_is_between (X : K.In h) (Gh : h.Ns mainGlobals mg) (c : He.SaysX hFa hFn [] hTd hEx w h K) : FOk LP w K mg G gc tab 1000 1 := by
  obtain ⟨fd, F⟩ := c.t.d.def_ 0 (d := dd "is_between" 22) rfl
  exact ⟨_, fd, He.glo_ok X Gh (c.t.d.fact 0 (f := .glo "is_between") rfl), F.kp, FunD.bindsN F (fun _ _ _ _ _ _ us hl => match us, hl with | [_, _, _], _ => rfl), fun m => absurd m (by decide), fun base k W => step_fn (g := b_is_between) (N := ["value", "low", "high"]) (lb := false) F rfl (by decide +kernel) (fun z => nomatch z) base k W⟩
theorem f_is_word (X : K.In h) (Gh : h.Ns mainGlobals mg) (c : He.SaysX hFa hFn [] hTd hEx w h K) : FOk LP w K mg G gc tab 1000 0 := by
  obtain ⟨fd, F⟩ := c.t.d.def_ 1 (d := dd "is_word" 23) rfl
  exact ⟨_, fd, He.glo_ok X Gh (c.t.d.fact 1 (f := .glo "is_word") rfl), F.kp, FunD.bindsN F (fun _ _ _ _ _ _ us hl => match us, hl with | [_, _], _ => rfl), fun m => absurd m (by decide), fun base k W => step_fn (g := b_is_word) (N := ["value", "words"]) (lb := false) F rfl (by decide +kernel) (fun z => nomatch z) base k W⟩
theorem f_is_way (X : K.In h) (Gh : h.Ns mainGlobals mg) (c : He.SaysX hFa hFn [] hTd hEx w h K) : FOk LP w K mg G gc tab 1000 2 := by
  obtain ⟨fd, F⟩ := c.t.d.def_ 2 (d := dd "is_way" 24) rfl
  exact ⟨_, fd, He.glo_ok X Gh (c.t.d.fact 2 (f := .glo "is_way") rfl), F.kp, FunD.bindsN F (fun _ _ _ _ _ _ us hl => match us, hl with | [_], _ => rfl), fun _ => bindsK (ps := ["value"]) F (by intro kV doc pm an cdv ct us ws hl; rcases us with _ | ⟨a1, _ | ⟨a0, _⟩⟩ <;> rcases ws with _ | ⟨a1, _ | ⟨a0, _⟩⟩ <;> first | rfl | (exfalso; simp at hl; done) | (exfalso; simp at hl; omega)), fun base k W => step_fn (g := b_is_way) (N := ["value"]) (lb := false) F rfl (by decide +kernel) (fun z => nomatch z) base k W⟩
theorem f_check_way (X : K.In h) (Gh : h.Ns mainGlobals mg) (c : He.SaysX hFa hFn [] hTd hEx w h K) : FOk LP w K mg G gc tab 1000 9 := by
  obtain ⟨fd, F⟩ := c.t.d.def_ 3 (d := dd "check_way" 25) rfl
  exact ⟨_, fd, He.glo_ok X Gh (c.t.d.fact 3 (f := .glo "check_way") rfl), F.kp, FunD.bindsN F (fun _ _ _ _ _ _ us hl => match us, hl with | [_], _ => rfl), fun m => absurd m (by decide), fun base k W => step_fn (g := b_check_way) (N := ["way"]) (lb := false) F rfl (by decide +kernel) (fun z => nomatch z) base k W⟩
theorem f_is_text (X : K.In h) (Gh : h.Ns mainGlobals mg) (c : He.SaysX hFa hFn [] hTd hEx w h K) : FOk LP w K mg G gc tab 1000 3 := by
  obtain ⟨fd, F⟩ := c.t.d.def_ 4 (d := dd "is_text" 26) rfl
  exact ⟨_, fd, He.glo_ok X Gh (c.t.d.fact 4 (f := .glo "is_text") rfl), F.kp, FunD.bindsN F (fun _ _ _ _ _ _ us hl => match us, hl with | [_], _ => rfl), fun _ => bindsK (ps := ["value"]) F (by intro kV doc pm an cdv ct us ws hl; rcases us with _ | ⟨a1, _ | ⟨a0, _⟩⟩ <;> rcases ws with _ | ⟨a1, _ | ⟨a0, _⟩⟩ <;> first | rfl | (exfalso; simp at hl; done) | (exfalso; simp at hl; omega)), fun base k W => step_fn (g := b_is_text) (N := ["value", "sign"]) (lb := false) F rfl (by decide +kernel) (fun z => nomatch z) base k W⟩
theorem f_check_text (X : K.In h) (Gh : h.Ns mainGlobals mg) (c : He.SaysX hFa hFn [] hTd hEx w h K) : FOk LP w K mg G gc tab 1000 8 := by
  obtain ⟨fd, F⟩ := c.t.d.def_ 5 (d := dd "check_text" 27) rfl
  exact ⟨_, fd, He.glo_ok X Gh (c.t.d.fact 5 (f := .glo "check_text") rfl), F.kp, FunD.bindsN F (fun _ _ _ _ _ _ us hl => match us, hl with | [_], _ => rfl), fun m => absurd m (by decide), fun base k W => step_fn (g := b_check_text) (N := ["text"]) (lb := false) F rfl (by decide +kernel) (fun z => nomatch z) base k W⟩
theorem f_check_sight (X : K.In h) (Gh : h.Ns mainGlobals mg) (c : He.SaysX hFa hFn [] hTd hEx w h K) : FOk LP w K mg G gc tab 1000 18 := by
  obtain ⟨fd, F⟩ := c.t.d.def_ 6 (d := dd "check_sight" 28) rfl
  exact ⟨_, fd, He.glo_ok X Gh (c.t.d.fact 6 (f := .glo "check_sight") rfl), F.kp, FunD.bindsN F (fun _ _ _ _ _ _ us hl => match us, hl with | [_], _ => rfl), fun m => absurd m (by decide), fun base k W => step_fn (g := b_check_sight) (N := ["sight"]) (lb := false) F rfl (by decide +kernel) (fun z => nomatch z) base k W⟩
theorem f_length_at (X : K.In h) (Gh : h.Ns mainGlobals mg) (c : He.SaysX hFa hFn [] hTd hEx w h K) : FOk LP w K mg G gc tab 1000 4 := by
  obtain ⟨fd, F⟩ := c.t.d.def_ 7 (d := dd "length_at" 30) rfl
  exact ⟨_, fd, He.glo_ok X Gh (c.t.d.fact 7 (f := .glo "length_at") rfl), F.kp, FunD.bindsN F (fun _ _ _ _ _ _ us hl => match us, hl with | [_, _, _, _], _ => rfl), fun m => absurd m (by decide), fun base k W => step_fn (g := b_length_at) (N := ["text", "place", "back", "most", "many"]) (lb := false) F rfl (by decide +kernel) (fun z => nomatch z) base k W⟩
theorem f_copies_of (X : K.In h) (Gh : h.Ns mainGlobals mg) (c : He.SaysX hFa hFn [] hTd hEx w h K) : FOk LP w K mg G gc tab 1000 5 := by
  obtain ⟨fd, F⟩ := c.t.d.def_ 8 (d := dd "copies_of" 31) rfl
  exact ⟨_, fd, He.glo_ok X Gh (c.t.d.fact 8 (f := .glo "copies_of") rfl), F.kp, FunD.bindsN F (fun _ _ _ _ _ _ us hl => match us, hl with | [_, _, _], _ => rfl), fun m => absurd m (by decide), fun base k W => step_fn (g := b_copies_of) (N := ["way", "text", "place", "found", "back", "look", "window", "least", "most", "own", "tie", "many"]) (lb := false) F rfl (by decide +kernel) (fun z => nomatch z) base k W⟩
theorem f_best_of (X : K.In h) (Gh : h.Ns mainGlobals mg) (c : He.SaysX hFa hFn [] hTd hEx w h K) : FOk LP w K mg G gc tab 1000 6 := by
  obtain ⟨fd, F⟩ := c.t.d.def_ 9 (d := dd "best_of" 32) rfl
  exact ⟨_, fd, He.glo_ok X Gh (c.t.d.fact 9 (f := .glo "best_of") rfl), F.kp, FunD.bindsN F (fun _ _ _ _ _ _ us hl => match us, hl with | [_, _, _], _ => rfl), fun m => absurd m (by decide), fun base k W => step_fn (g := b_best_of) (N := ["way", "text", "place", "found", "longest", "some", "copy", "back", "many"]) (lb := false) F rfl (by decide +kernel) (fun z => nomatch z) base k W⟩
theorem f_cover_of (X : K.In h) (Gh : h.Ns mainGlobals mg) (c : He.SaysX hFa hFn [] hTd hEx w h K) : FOk LP w K mg G gc tab 1000 10 := by
  obtain ⟨fd, F⟩ := c.t.d.def_ 10 (d := dd "cover_of" 33) rfl
  exact ⟨_, fd, He.glo_ok X Gh (c.t.d.fact 10 (f := .glo "cover_of") rfl), F.kp, FunD.bindsN F (fun _ _ _ _ _ _ us hl => match us, hl with | [_, _, _], _ => rfl), fun m => absurd m (by decide), fun base k W => step_fn (g := b_cover_of) (N := ["way", "text", "place", "copy"]) (lb := false) F rfl (by decide +kernel) (fun z => nomatch z) base k W⟩
theorem f_check_place (X : K.In h) (Gh : h.Ns mainGlobals mg) (c : He.SaysX hFa hFn [] hTd hEx w h K) : FOk LP w K mg G gc tab 1000 7 := by
  obtain ⟨fd, F⟩ := c.t.d.def_ 11 (d := dd "check_place" 34) rfl
  exact ⟨_, fd, He.glo_ok X Gh (c.t.d.fact 11 (f := .glo "check_place") rfl), F.kp, FunD.bindsN F (fun _ _ _ _ _ _ us hl => match us, hl with | [_, _], _ => rfl), fun m => absurd m (by decide), fun base k W => step_fn (g := b_check_place) (N := ["text", "place"]) (lb := false) F rfl (by decide +kernel) (fun z => nomatch z) base k W⟩
theorem f_copies (X : K.In h) (Gh : h.Ns mainGlobals mg) (c : He.SaysX hFa hFn [] hTd hEx w h K) : FOk LP w K mg G gc tab 1000 27 := by
  obtain ⟨fd, F⟩ := c.t.d.def_ 12 (d := dd "copies" 35) rfl
  exact ⟨_, fd, He.glo_ok X Gh (c.t.d.fact 12 (f := .glo "copies") rfl), F.kp, FunD.bindsN F (fun _ _ _ _ _ _ us hl => match us, hl with | [_, _, _], _ => rfl), fun m => absurd m (by decide), fun base k W => step_fn (g := b_copies) (N := ["way", "text", "place"]) (lb := false) F rfl (by decide +kernel) (fun z => nomatch z) base k W⟩
theorem f_best (X : K.In h) (Gh : h.Ns mainGlobals mg) (c : He.SaysX hFa hFn [] hTd hEx w h K) : FOk LP w K mg G gc tab 1000 25 := by
  obtain ⟨fd, F⟩ := c.t.d.def_ 13 (d := dd "best" 36) rfl
  exact ⟨_, fd, He.glo_ok X Gh (c.t.d.fact 13 (f := .glo "best") rfl), F.kp, FunD.bindsN F (fun _ _ _ _ _ _ us hl => match us, hl with | [_, _, _], _ => rfl), fun m => absurd m (by decide), fun base k W => step_fn (g := b_best) (N := ["way", "text", "place"]) (lb := false) F rfl (by decide +kernel) (fun z => nomatch z) base k W⟩
theorem f_size_of (X : K.In h) (Gh : h.Ns mainGlobals mg) (c : He.SaysX hFa hFn [] hTd hEx w h K) : FOk LP w K mg G gc tab 1000 12 := by
  obtain ⟨fd, F⟩ := c.t.d.def_ 14 (d := dd "size_of" 37) rfl
  exact ⟨_, fd, He.glo_ok X Gh (c.t.d.fact 14 (f := .glo "size_of") rfl), F.kp, FunD.bindsN F (fun _ _ _ _ _ _ us hl => match us, hl with | [_], _ => rfl), fun m => absurd m (by decide), fun base k W => step_fn (g := b_size_of) (N := ["token"]) (lb := false) F rfl (by decide +kernel) (fun z => nomatch z) base k W⟩
theorem f_leaves_out (X : K.In h) (Gh : h.Ns mainGlobals mg) (c : He.SaysX hFa hFn [] hTd hEx w h K) : FOk LP w K mg G gc tab 1000 11 := by
  obtain ⟨fd, F⟩ := c.t.d.def_ 15 (d := dd "leaves_out" 39) rfl
  exact ⟨_, fd, He.glo_ok X Gh (c.t.d.fact 15 (f := .glo "leaves_out") rfl), F.kp, FunD.bindsN F (fun _ _ _ _ _ _ us hl => match us, hl with | [_, _, _, _], _ => rfl), fun m => absurd m (by decide), fun base k W => step_fn (g := b_leaves_out) (N := ["way", "text", "place", "copy", "after"]) (lb := false) F rfl (by decide +kernel) (fun z => nomatch z) base k W⟩
theorem f_token_at (X : K.In h) (Gh : h.Ns mainGlobals mg) (c : He.SaysX hFa hFn [] hTd hEx w h K) : FOk LP w K mg G gc tab 1000 14 := by
  obtain ⟨fd, F⟩ := c.t.d.def_ 16 (d := dd "token_at" 40) rfl
  exact ⟨_, fd, He.glo_ok X Gh (c.t.d.fact 16 (f := .glo "token_at") rfl), F.kp, FunD.bindsN F (fun _ _ _ _ _ _ us hl => match us, hl with | [_, _, _], _ => rfl), fun m => absurd m (by decide), fun base k W => step_fn (g := b_token_at) (N := ["way", "text", "place", "copy"]) (lb := false) F rfl (by decide +kernel) (fun z => nomatch z) base k W⟩
theorem f_rests_of (X : K.In h) (Gh : h.Ns mainGlobals mg) (c : He.SaysX hFa hFn [] hTd hEx w h K) : FOk LP w K mg G gc tab 1000 15 := by
  obtain ⟨fd, F⟩ := c.t.d.def_ 17 (d := dd "rests_of" 41) rfl
  exact ⟨_, fd, He.glo_ok X Gh (c.t.d.fact 17 (f := .glo "rests_of") rfl), F.kp, FunD.bindsN F (fun _ _ _ _ _ _ us hl => match us, hl with | [_, _], _ => rfl), fun m => absurd m (by decide), fun base k W => step_fn (g := b_rests_of) (N := ["way", "text", "rests", "place", "counts", "back", "many", "size"]) (lb := false) F rfl (by decide +kernel) (fun z => nomatch z) base k W⟩
theorem f_fewest_at (X : K.In h) (Gh : h.Ns mainGlobals mg) (c : He.SaysX hFa hFn [] hTd hEx w h K) : FOk LP w K mg G gc tab 1000 13 := by
  obtain ⟨fd, F⟩ := c.t.d.def_ 18 (d := dd "fewest_at" 42) rfl
  exact ⟨_, fd, He.glo_ok X Gh (c.t.d.fact 18 (f := .glo "fewest_at") rfl), F.kp, FunD.bindsN F (fun _ _ _ _ _ _ us hl => match us, hl with | [_, _, _, _], _ => rfl), fun m => absurd m (by decide), fun base k W => step_fn (g := b_fewest_at) (N := ["way", "text", "place", "rests", "best", "back", "many", "sizes", "size"]) (lb := false) F rfl (by decide +kernel) (fun z => nomatch z) base k W⟩
theorem f_tokens_of (X : K.In h) (Gh : h.Ns mainGlobals mg) (c : He.SaysX hFa hFn [] hTd hEx w h K) : FOk LP w K mg G gc tab 1000 16 := by
  obtain ⟨fd, F⟩ := c.t.d.def_ 19 (d := dd "tokens_of" 43) rfl
  exact ⟨_, fd, He.glo_ok X Gh (c.t.d.fact 19 (f := .glo "tokens_of") rfl), F.kp, FunD.bindsN F (fun _ _ _ _ _ _ us hl => match us, hl with | [_, _], _ => rfl), fun m => absurd m (by decide), fun base k W => step_fn (g := b_tokens_of) (N := ["way", "text", "rests", "place", "found", "token"]) (lb := false) F rfl (by decide +kernel) (fun z => nomatch z) base k W⟩
theorem f_seen_of (X : K.In h) (Gh : h.Ns mainGlobals mg) (c : He.SaysX hFa hFn [] hTd hEx w h K) : FOk LP w K mg G gc tab 1000 17 := by
  obtain ⟨fd, F⟩ := c.t.d.def_ 20 (d := dd "seen_of" 44) rfl
  exact ⟨_, fd, He.glo_ok X Gh (c.t.d.fact 20 (f := .glo "seen_of") rfl), F.kp, FunD.bindsN F (fun _ _ _ _ _ _ us hl => match us, hl with | [_, _], _ => rfl), fun m => absurd m (by decide), fun base k W => step_fn (g := b_seen_of) (N := ["tokens", "sight", "token"]) (lb := false) F rfl (by decide +kernel) (fun z => nomatch z) base k W⟩
theorem f_write (X : K.In h) (Gh : h.Ns mainGlobals mg) (c : He.SaysX hFa hFn [] hTd hEx w h K) : FOk LP w K mg G gc tab 1000 32 := by
  obtain ⟨fd, F⟩ := c.t.d.def_ 21 (d := dd "write" 45) rfl
  exact ⟨_, fd, He.glo_ok X Gh (c.t.d.fact 21 (f := .glo "write") rfl), F.kp, FunD.bindsN F (fun _ _ _ _ _ _ us hl => match us, hl with | [_, _], _ => rfl), fun m => absurd m (by decide), fun base k W => step_fn (g := b_write) (N := ["way", "text"]) (lb := false) F rfl (by decide +kernel) (fun z => nomatch z) base k W⟩
theorem f_see (X : K.In h) (Gh : h.Ns mainGlobals mg) (c : He.SaysX hFa hFn [] hTd hEx w h K) : FOk LP w K mg G gc tab 1000 34 := by
  obtain ⟨fd, F⟩ := c.t.d.def_ 22 (d := dd "see" 46) rfl
  exact ⟨_, fd, He.glo_ok X Gh (c.t.d.fact 22 (f := .glo "see") rfl), F.kp, FunD.bindsN F (fun _ _ _ _ _ _ us hl => match us, hl with | [_, _, _], _ => rfl), fun m => absurd m (by decide), fun base k W => step_fn (g := b_see) (N := ["way", "text", "sight"]) (lb := false) F rfl (by decide +kernel) (fun z => nomatch z) base k W⟩
theorem f_least_number (X : K.In h) (Gh : h.Ns mainGlobals mg) (c : He.SaysX hFa hFn [] hTd hEx w h K) : FOk LP w K mg G gc tab 1000 35 := by
  obtain ⟨fd, F⟩ := c.t.d.def_ 23 (d := dd "least_number" 47) rfl
  exact ⟨_, fd, He.glo_ok X Gh (c.t.d.fact 23 (f := .glo "least_number") rfl), F.kp, FunD.bindsN F (fun _ _ _ _ _ _ us hl => match us, hl with | [_, _], _ => rfl), fun m => absurd m (by decide), fun base k W => step_fn (g := b_least_number) (N := ["way", "text"]) (lb := false) F rfl (by decide +kernel) (fun z => nomatch z) base k W⟩
theorem f_joined (X : K.In h) (Gh : h.Ns mainGlobals mg) (c : He.SaysX hFa hFn [] hTd hEx w h K) : FOk LP w K mg G gc tab 1000 97 := by
  obtain ⟨fd, F⟩ := c.t.d.def_ 24 (d := dd "joined" 49) rfl
  exact ⟨_, fd, He.glo_ok X Gh (c.t.d.fact 24 (f := .glo "joined") rfl), F.kp, FunD.bindsN F (fun _ _ _ _ _ _ us hl => match us, hl with | [_, _, _], _ => rfl), fun m => absurd m (by decide), fun base k W => step_fn (g := b_joined) (N := ["way", "one", "other"]) (lb := false) F rfl (by decide +kernel) (fun z => nomatch z) base k W⟩
theorem f__law_draw (X : K.In h) (Gh : h.Ns mainGlobals mg) (c : He.SaysX hFa hFn [] hTd hEx w h K) : FOk LP w K mg G gc tab 1000 19 := by
  obtain ⟨fd, F⟩ := c.t.d.def_ 25 (d := dd "_law_draw" 51) rfl
  exact ⟨_, fd, He.glo_ok X Gh (c.t.d.fact 25 (f := .glo "_law_draw") rfl), F.kp, FunD.bindsN F (fun _ _ _ _ _ _ us hl => match us, hl with | [_, _, _], _ => rfl), fun m => absurd m (by decide), fun base k W => drw_ok F (scB_ok (by decide +kernel)) rfl rfl rfl rfl rfl rfl (He.free_ok X Gh (c.t.d.fact 34 (f := .free "len") rfl)) rfl rfl⟩
theorem f__law_begun (X : K.In h) (Gh : h.Ns mainGlobals mg) (c : He.SaysX hFa hFn [] hTd hEx w h K) : FOk LP w K mg G gc tab 1000 20 := by
  obtain ⟨fd, F⟩ := c.t.d.def_ 26 (d := dd "_law_begun" 52) rfl
  exact ⟨_, fd, He.glo_ok X Gh (c.t.d.fact 26 (f := .glo "_law_begun") rfl), F.kp, FunD.bindsN F (fun _ _ _ _ _ _ us hl => match us, hl with | [], _ => rfl), fun m => absurd m (by decide), fun base k W => beg_ok F (scB_ok (by decide +kernel)) rfl rfl rfl⟩
theorem f__law_is (X : K.In h) (Gh : h.Ns mainGlobals mg) (c : He.SaysX hFa hFn [] hTd hEx w h K) : FOk LP w K mg G gc tab 1000 108 := by
  obtain ⟨fd, F⟩ := c.t.d.def_ 27 (d := dd "_law_is" 53) rfl
  exact ⟨_, fd, He.glo_ok X Gh (c.t.d.fact 27 (f := .glo "_law_is") rfl), F.kp, FunD.bindsN F (fun _ _ _ _ _ _ us hl => match us, hl with | [_, _], _ => rfl), fun m => absurd m (by decide), fun base k W => step_fn (g := b__law_is) (N := ["found", "expected"]) (lb := false) F rfl (by decide +kernel) (fun z => nomatch z) base k W⟩
theorem f__law_rule (X : K.In h) (Gh : h.Ns mainGlobals mg) (c : He.SaysX hFa hFn [] hTd hEx w h K) : FOk LP w K mg G gc tab 1000 23 := by
  obtain ⟨fd, F⟩ := c.t.d.def_ 28 (d := dd "_law_rule" 55) rfl
  exact ⟨_, fd, He.glo_ok X Gh (c.t.d.fact 28 (f := .glo "_law_rule") rfl), F.kp, FunD.bindsN F (fun _ _ _ _ _ _ us hl => match us, hl with | [_, _, _], _ => rfl), fun m => absurd m (by decide), fun base k W => step_fn (g := b__law_rule) (N := ["script", "town", "words", "look", "least", "most", "tie"]) (lb := false) F rfl (by decide +kernel) (fun z => nomatch z) base k W⟩
theorem f__law_line (X : K.In h) (Gh : h.Ns mainGlobals mg) (c : He.SaysX hFa hFn [] hTd hEx w h K) : FOk LP w K mg G gc tab 1000 28 := by
  obtain ⟨fd, F⟩ := c.t.d.def_ 29 (d := dd "_law_line" 56) rfl
  exact ⟨_, fd, He.glo_ok X Gh (c.t.d.fact 29 (f := .glo "_law_line") rfl), F.kp, FunD.bindsN F (fun _ _ _ _ _ _ us hl => match us, hl with | [_, _, _], _ => rfl), fun m => absurd m (by decide), fun base k W => step_fn (g := b__law_line) (N := ["script", "town", "most", "found", "k", "back"]) (lb := false) F rfl (by decide +kernel) (fun z => nomatch z) base k W⟩
theorem f__law_odd (X : K.In h) (Gh : h.Ns mainGlobals mg) (c : He.SaysX hFa hFn [] hTd hEx w h K) : FOk LP w K mg G gc tab 1000 109 := by
  obtain ⟨fd, F⟩ := c.t.d.def_ 30 (d := dd "_law_odd" 57) rfl
  exact ⟨_, fd, He.glo_ok X Gh (c.t.d.fact 30 (f := .glo "_law_odd") rfl), F.kp, FunD.bindsN F (fun _ _ _ _ _ _ us hl => match us, hl with | [_, _, _], _ => rfl), fun m => absurd m (by decide), fun base k W => step_fn (g := b__law_odd) (N := ["script", "town", "rule", "at", "thing", "some"]) (lb := false) F rfl (by decide +kernel) (fun z => nomatch z) base k W⟩
theorem f__law_bad (X : K.In h) (Gh : h.Ns mainGlobals mg) (c : He.SaysX hFa hFn [] hTd hEx w h K) : FOk LP w K mg G gc tab 1000 110 := by
  obtain ⟨fd, F⟩ := c.t.d.def_ 31 (d := dd "_law_bad" 58) rfl
  exact ⟨_, fd, He.glo_ok X Gh (c.t.d.fact 31 (f := .glo "_law_bad") rfl), F.kp, FunD.bindsN F (fun _ _ _ _ _ _ us hl => match us, hl with | [_, _], _ => rfl), fun m => absurd m (by decide), fun base k W => step_fn (g := b__law_bad) (N := ["script", "town", "some"]) (lb := false) F rfl (by decide +kernel) (fun z => nomatch z) base k W⟩
theorem f__law_orders (X : K.In h) (Gh : h.Ns mainGlobals mg) (c : He.SaysX hFa hFn [] hTd hEx w h K) : FOk LP w K mg G gc tab 1000 107 := by
  obtain ⟨fd, F⟩ := c.t.d.def_ 32 (d := dd "_law_orders" 59) rfl
  exact ⟨_, fd, He.glo_ok X Gh (c.t.d.fact 32 (f := .glo "_law_orders") rfl), F.kp, FunD.bindsN F (fun _ _ _ _ _ _ us hl => match us, hl with | [_, _, _, _], _ => rfl), fun m => absurd m (by decide), fun base k W => step_fn (g := b__law_orders) (N := ["rule", "odd", "bad", "line", "calls"]) (lb := true) F rfl (by decide +kernel) (fun _ => ⟨rfl, rfl, tdf_in c "_law_orders" (by decide)⟩) base k W⟩
theorem f_law (X : K.In h) (Gh : h.Ns mainGlobals mg) (c : He.SaysX hFa hFn [] hTd hEx w h K) : FOk LP w K mg G gc tab 1000 106 := by
  obtain ⟨fd, F⟩ := c.t.d.def_ 33 (d := dd "law" 60) rfl
  exact ⟨_, fd, He.glo_ok X Gh (c.t.d.fact 33 (f := .glo "law") rfl), F.kp, FunD.bindsN F (fun _ _ _ _ _ _ us hl => match us, hl with | [_], _ => rfl), fun m => absurd m (by decide), fun base k W => step_fn (g := b_law) (N := ["script", "town", "k", "good", "spot", "side", "rule", "line", "odd", "bad"]) (lb := true) F rfl (by decide +kernel) (fun _ => ⟨rfl, rfl, tdf_in c "law" (by decide)⟩) base k W⟩
theorem w_ok (X : K.In h) (Gh : h.Ns mainGlobals mg) (c : He.SaysX hFa hFn [] hTd hEx w h K) (base : Heap) (ht : ∀ p ∈ (tdf K).map fun x => He.cT K (x, none), LamX.TabB base mg p.1 p.2) : ∀ k, Wok LP w K mg base k G gc (callF gc tab 1000 k) := by
  have hx : hEx K = true := c.more
  unfold hEx at hx
  refine wok ?_ ?_ ?_ ?_ base ?_ (fun x hx => ht _ (List.mem_map.mpr ⟨x, hx, rfl⟩)) (tbU_ok (hex_ok c).2.1)
  · intro x m
    simp only [bltN, List.mem_cons, List.not_mem_nil, or_false] at m
    rcases m with rfl | rfl | rfl | rfl | rfl | rfl | rfl | rfl | rfl | rfl | rfl | rfl | rfl | rfl | rfl | rfl | rfl | rfl | rfl
    · exact He.free_ok X Gh (c.t.d.fact 34 (f := .free "len") rfl)
    · exact He.free_ok X Gh (c.t.d.fact 35 (f := .free "min") rfl)
    · exact He.free_ok X Gh (c.t.d.fact 36 (f := .free "max") rfl)
    · exact He.free_ok X Gh (c.t.d.fact 37 (f := .free "sum") rfl)
    · exact He.free_ok X Gh (c.t.d.fact 38 (f := .free "all") rfl)
    · exact He.free_ok X Gh (c.t.d.fact 39 (f := .free "any") rfl)
    · exact He.free_ok X Gh (c.t.d.fact 40 (f := .free "tuple") rfl)
    · exact He.free_ok X Gh (c.t.d.fact 41 (f := .free "list") rfl)
    · exact He.free_ok X Gh (c.t.d.fact 42 (f := .free "abs") rfl)
    · exact He.free_ok X Gh (c.t.d.fact 43 (f := .free "str") rfl)
    · exact He.free_ok X Gh (c.t.d.fact 44 (f := .free "int") rfl)
    · exact He.free_ok X Gh (c.t.d.fact 45 (f := .free "bool") rfl)
    · exact He.free_ok X Gh (c.t.d.fact 46 (f := .free "isinstance") rfl)
    · exact He.free_ok X Gh (c.t.d.fact 47 (f := .free "range") rfl)
    · exact He.free_ok X Gh (c.t.d.fact 48 (f := .free "enumerate") rfl)
    · exact He.free_ok X Gh (c.t.d.fact 49 (f := .free "zip") rfl)
    · exact He.free_ok X Gh (c.t.d.fact 50 (f := .free "sorted") rfl)
    · exact He.free_ok X Gh (c.t.d.fact 51 (f := .free "set") rfl)
    · exact He.free_ok X Gh (c.t.d.fact 52 (f := .free "dict") rfl)
  · intro i m
    simp only [G, List.mem_cons, List.not_mem_nil, or_false] at m
    rcases m with rfl | rfl | rfl | rfl | rfl | rfl | rfl | rfl | rfl | rfl | rfl | rfl | rfl | rfl | rfl | rfl | rfl | rfl | rfl | rfl | rfl | rfl | rfl | rfl | rfl | rfl | rfl | rfl | rfl | rfl | rfl | rfl | rfl | rfl
    · exact f_is_between X Gh c
    · exact f_is_word X Gh c
    · exact f_is_way X Gh c
    · exact f_check_way X Gh c
    · exact f_is_text X Gh c
    · exact f_check_text X Gh c
    · exact f_check_sight X Gh c
    · exact f_length_at X Gh c
    · exact f_copies_of X Gh c
    · exact f_best_of X Gh c
    · exact f_cover_of X Gh c
    · exact f_check_place X Gh c
    · exact f_copies X Gh c
    · exact f_best X Gh c
    · exact f_size_of X Gh c
    · exact f_leaves_out X Gh c
    · exact f_token_at X Gh c
    · exact f_rests_of X Gh c
    · exact f_fewest_at X Gh c
    · exact f_tokens_of X Gh c
    · exact f_seen_of X Gh c
    · exact f_write X Gh c
    · exact f_see X Gh c
    · exact f_least_number X Gh c
    · exact f_joined X Gh c
    · exact f__law_draw X Gh c
    · exact f__law_begun X Gh c
    · exact f__law_is X Gh c
    · exact f__law_rule X Gh c
    · exact f__law_line X Gh c
    · exact f__law_odd X Gh c
    · exact f__law_bad X Gh c
    · exact f__law_orders X Gh c
    · exact f_law X Gh c
  · simp only [Bool.and_eq_true, decide_eq_true_eq] at hx
    obtain ⟨⟨⟨⟨⟨r1, r2⟩, r3⟩, x0⟩, x1⟩, x2⟩ := hx
    intro i m
    simp only [G, List.mem_cons, List.not_mem_nil, or_false] at m
    rcases m with rfl | rfl | rfl
    · exact gok (x := "LOOKS") (ss := [[102, 101, 119, 101, 115, 116], [110, 101, 120, 116], [110, 111, 119], [116, 119, 111]]) rfl (He.glo_ok X Gh (c.t.d.fact 53 (f := .glo "LOOKS") rfl)) x0 rfl (by kernel_rfl)
    · exact gok (x := "TIES") (ss := [[102, 97, 114], [110, 101, 97, 114]]) rfl (He.glo_ok X Gh (c.t.d.fact 54 (f := .glo "TIES") rfl)) x1 rfl (by kernel_rfl)
    · exact gok (x := "SIGHTS") (ss := [[108, 101, 110, 103, 116, 104, 115], [110, 117, 109, 98, 101, 114], [116, 111, 107, 101, 110, 115]]) rfl (He.glo_ok X Gh (c.t.d.fact 55 (f := .glo "SIGHTS") rfl)) x2 rfl (by kernel_rfl)
  · intro i m
    simp only [G, List.mem_cons, List.not_mem_nil, or_false] at m
    rcases m with rfl | rfl | rfl | rfl | rfl | rfl | rfl | rfl | rfl | rfl | rfl | rfl | rfl | rfl | rfl | rfl | rfl
    · exact eok (x := "CopyError") rfl (He.glo_ok X Gh (c.t.d.fact 56 (f := .glo "CopyError") rfl)) (c.t.d.fact 73 (f := .exc "CopyError") rfl)
    · exact eok (x := "InvalidWay") rfl (He.glo_ok X Gh (c.t.d.fact 57 (f := .glo "InvalidWay") rfl)) (c.t.d.fact 74 (f := .exc "InvalidWay") rfl)
    · exact eok (x := "InvalidWays") rfl (He.glo_ok X Gh (c.t.d.fact 58 (f := .glo "InvalidWays") rfl)) (c.t.d.fact 75 (f := .exc "InvalidWays") rfl)
    · exact eok (x := "InvalidText") rfl (He.glo_ok X Gh (c.t.d.fact 59 (f := .glo "InvalidText") rfl)) (c.t.d.fact 76 (f := .exc "InvalidText") rfl)
    · exact eok (x := "InvalidPlace") rfl (He.glo_ok X Gh (c.t.d.fact 60 (f := .glo "InvalidPlace") rfl)) (c.t.d.fact 77 (f := .exc "InvalidPlace") rfl)
    · exact eok (x := "InvalidTokens") rfl (He.glo_ok X Gh (c.t.d.fact 61 (f := .glo "InvalidTokens") rfl)) (c.t.d.fact 78 (f := .exc "InvalidTokens") rfl)
    · exact eok (x := "InvalidLengths") rfl (He.glo_ok X Gh (c.t.d.fact 62 (f := .glo "InvalidLengths") rfl)) (c.t.d.fact 79 (f := .exc "InvalidLengths") rfl)
    · exact eok (x := "InvalidSight") rfl (He.glo_ok X Gh (c.t.d.fact 63 (f := .glo "InvalidSight") rfl)) (c.t.d.fact 80 (f := .exc "InvalidSight") rfl)
    · exact eok (x := "InvalidNumber") rfl (He.glo_ok X Gh (c.t.d.fact 64 (f := .glo "InvalidNumber") rfl)) (c.t.d.fact 81 (f := .exc "InvalidNumber") rfl)
    · exact eok (x := "InvalidLetter") rfl (He.glo_ok X Gh (c.t.d.fact 65 (f := .glo "InvalidLetter") rfl)) (c.t.d.fact 82 (f := .exc "InvalidLetter") rfl)
    · exact eok (x := "InvalidLine") rfl (He.glo_ok X Gh (c.t.d.fact 66 (f := .glo "InvalidLine") rfl)) (c.t.d.fact 83 (f := .exc "InvalidLine") rfl)
    · exact eok (x := "NeverSure") rfl (He.glo_ok X Gh (c.t.d.fact 67 (f := .glo "NeverSure") rfl)) (c.t.d.fact 84 (f := .exc "NeverSure") rfl)
    · exact eok (x := "Alike") rfl (He.glo_ok X Gh (c.t.d.fact 68 (f := .glo "Alike") rfl)) (c.t.d.fact 85 (f := .exc "Alike") rfl)
    · exact eok (x := "NotWritten") rfl (He.glo_ok X Gh (c.t.d.fact 69 (f := .glo "NotWritten") rfl)) (c.t.d.fact 86 (f := .exc "NotWritten") rfl)
    · exact eok (x := "TooMany") rfl (He.glo_ok X Gh (c.t.d.fact 70 (f := .glo "TooMany") rfl)) (c.t.d.fact 87 (f := .exc "TooMany") rfl)
    · exact eok (x := "Ended") rfl (He.glo_ok X Gh (c.t.d.fact 71 (f := .glo "Ended") rfl)) (c.t.d.fact 88 (f := .exc "Ended") rfl)
    · exact eok (x := "NothingToUndo") rfl (He.glo_ok X Gh (c.t.d.fact 72 (f := .glo "NothingToUndo") rfl)) (c.t.d.fact 89 (f := .exc "NothingToUndo") rfl)
  · intro _
    obtain ⟨fd, F⟩ := c.t.d.def_ 34 (d := dd "_law_result" 54) rfl
    refine resW_of F rfl rfl rfl rfl rfl rfl rfl rfl (He.glo_ok X Gh (c.t.d.fact 90 (f := .glo "_law_result") rfl)) (FunD.bindsN F (fun _ _ _ _ _ _ us hl => match us, hl with | [_], _ => rfl)) ?_ (He.glo_ok X Gh (c.t.d.fact 56 (f := .glo "CopyError") rfl)) (He.free_ok X Gh (c.t.d.fact 46 (f := .free "isinstance") rfl)) (He.free_ok X Gh (c.t.d.fact 34 (f := .free "len") rfl)) (He.free_ok X Gh (c.t.d.fact 91 (f := .free "ValueError") rfl)) (hex_ok c).1 ?_
    · intro z m
      simp only [resC, List.mem_cons, List.not_mem_nil, or_false] at m
      rcases m with rfl | rfl | rfl | rfl | rfl | rfl | rfl | rfl | rfl | rfl | rfl | rfl | rfl | rfl | rfl | rfl
      · exact He.glo_ok X Gh (c.t.d.fact 57 (f := .glo "InvalidWay") rfl)
      · exact He.glo_ok X Gh (c.t.d.fact 58 (f := .glo "InvalidWays") rfl)
      · exact He.glo_ok X Gh (c.t.d.fact 59 (f := .glo "InvalidText") rfl)
      · exact He.glo_ok X Gh (c.t.d.fact 60 (f := .glo "InvalidPlace") rfl)
      · exact He.glo_ok X Gh (c.t.d.fact 61 (f := .glo "InvalidTokens") rfl)
      · exact He.glo_ok X Gh (c.t.d.fact 62 (f := .glo "InvalidLengths") rfl)
      · exact He.glo_ok X Gh (c.t.d.fact 63 (f := .glo "InvalidSight") rfl)
      · exact He.glo_ok X Gh (c.t.d.fact 64 (f := .glo "InvalidNumber") rfl)
      · exact He.glo_ok X Gh (c.t.d.fact 65 (f := .glo "InvalidLetter") rfl)
      · exact He.glo_ok X Gh (c.t.d.fact 66 (f := .glo "InvalidLine") rfl)
      · exact He.glo_ok X Gh (c.t.d.fact 67 (f := .glo "NeverSure") rfl)
      · exact He.glo_ok X Gh (c.t.d.fact 68 (f := .glo "Alike") rfl)
      · exact He.glo_ok X Gh (c.t.d.fact 69 (f := .glo "NotWritten") rfl)
      · exact He.glo_ok X Gh (c.t.d.fact 70 (f := .glo "TooMany") rfl)
      · exact He.glo_ok X Gh (c.t.d.fact 71 (f := .glo "Ended") rfl)
      · exact He.glo_ok X Gh (c.t.d.fact 72 (f := .glo "NothingToUndo") rfl)
    · intro c i s h
      unfold exNm at h
      split at h
      all_goals first | (cases h; exact ⟨_, rfl, by kernel_rfl⟩) | cases h
theorem facts (X : K.In h) (Gh : h.Ns mainGlobals mg) (c : He.SaysX hFa hFn [] hTd hEx w h K) {f : Addr} (hf : mg ("law" : Str) = some (.ref f)) :
    ∃ fd : FuncData, (∀ (s : Shared) (v : Value), BindsTo s fd ⟨[v], []⟩ [("script", v)]) ∧ ∀ base : Heap, (∀ p ∈ (tdf K).map fun x => He.cT K (x, none), LamX.TabB base mg p.1 p.2) → FnOk LP w K mg base (CXs LP) 60 f fd ["script"] (spC K mg G (callF gc tab 1000 20) 106) := by
  obtain ⟨fd, F⟩ := c.t.d.def_ 33 (d := dd "law" 60) rfl
  have e := hf.symm.trans (He.glo_ok X Gh (c.t.d.fact 33 (f := .glo "law") rfl))
  cases e
  have b := FunD.bindsA (ps := ["script"]) F fun _ _ _ _ _ _ us hl => match us, hl with | [_], _ => rfl
  exact ⟨fd, fun s v => b s [v] rfl, fun base ht => FnOk.some (step_fn (G := G) (T := tab) (i := 106) (g := b_law) (N := ["script", "town", "k", "good", "spot", "side", "rule", "line", "odd", "bad"]) (lb := true) F rfl (by decide +kernel) (fun _ => ⟨rfl, rfl, tdf_in c "law" (by decide)⟩) base 19 (w_ok X Gh c base ht 19))⟩
theorem tabs0 (X : K.In h) (c : He.SaysX hFa hFn [] hTd hEx w h K) (p : Addr × Addr) (hp : p ∈ (tdf K).map fun x => He.cT K (x, none)) : h.get? p.2 = some { cls := .none, data := .fields #[] } ∧ K.lookup p.2 = none ∧ PySem.W.CodeHd h p.1 p.2 := by
  obtain ⟨x, hx, rfl⟩ := List.mem_map.mp hp
  rw [(hex_ok c).2.2] at hx
  have hm : ((x, none) : He.Defn) ∈ hTd := List.mem_map.mpr ⟨x, hx, rfl⟩
  exact ⟨c.empty _ hm, c.out _ hm, PySem.W.codeHd_of_K X (c.hd _ hm)⟩
end
--LIBS PQRSUV4
instance : Has tab 1 b_is_between := ⟨rfl⟩
instance : Has tab 0 b_is_word := ⟨rfl⟩
instance : Has tab 2 b_is_way := ⟨rfl⟩
instance : Has tab 9 b_check_way := ⟨rfl⟩
instance : Has tab 3 b_is_text := ⟨rfl⟩
instance : Has tab 8 b_check_text := ⟨rfl⟩
instance : Has tab 18 b_check_sight := ⟨rfl⟩
instance : Has tab 4 b_length_at := ⟨rfl⟩
instance : Has tab 5 b_copies_of := ⟨rfl⟩
instance : Has tab 6 b_best_of := ⟨rfl⟩
instance : Has tab 10 b_cover_of := ⟨rfl⟩
instance : Has tab 7 b_check_place := ⟨rfl⟩
instance : Has tab 27 b_copies := ⟨rfl⟩
instance : Has tab 25 b_best := ⟨rfl⟩
instance : Has tab 12 b_size_of := ⟨rfl⟩
instance : Has tab 11 b_leaves_out := ⟨rfl⟩
instance : Has tab 14 b_token_at := ⟨rfl⟩
instance : Has tab 15 b_rests_of := ⟨rfl⟩
instance : Has tab 13 b_fewest_at := ⟨rfl⟩
instance : Has tab 16 b_tokens_of := ⟨rfl⟩
instance : Has tab 17 b_seen_of := ⟨rfl⟩
instance : Has tab 32 b_write := ⟨rfl⟩
instance : Has tab 34 b_see := ⟨rfl⟩
instance : Has tab 35 b_least_number := ⟨rfl⟩
instance : Has tab 97 b_joined := ⟨rfl⟩
instance : HasD tab 19 := ⟨rfl⟩
instance : HasB tab 20 := ⟨rfl⟩
instance : Has tab 108 b__law_is := ⟨rfl⟩
instance : Has tab 23 b__law_rule := ⟨rfl⟩
instance : Has tab 28 b__law_line := ⟨rfl⟩
instance : Has tab 109 b__law_odd := ⟨rfl⟩
instance : Has tab 110 b__law_bad := ⟨rfl⟩
instance : Has tab 107 b__law_orders := ⟨rfl⟩
instance : Has tab 106 b_law := ⟨rfl⟩
instance : HasG gc 1 (.tup [(.str [102, 101, 119, 101, 115, 116]), (.str [110, 101, 120, 116]), (.str [110, 111, 119]), (.str [116, 119, 111])]) := ⟨rfl⟩
instance : HasG gc 0 (.tup [(.str [102, 97, 114]), (.str [110, 101, 97, 114])]) := ⟨rfl⟩
instance : HasG gc 2 (.tup [(.str [108, 101, 110, 103, 116, 104, 115]), (.str [110, 117, 109, 98, 101, 114]), (.str [116, 111, 107, 101, 110, 115])]) := ⟨rfl⟩

def retB (m : M D) (b : Bool) : Bool := match m with
  | .ret (.ok (.bl c)) => c == b
  | _ => false
theorem retB_ok {m : M D} {b : Bool} (h : retB m b = true) : m = ok (.bl b) := by
  unfold retB at h
  split at h
  · rename_i c
    rw [eq_of_beq h]
  · cases h
/-! ### values that are no texts -/
def bads : Nat → D
  | 0 => .str [99] | 1 => .str [65] | 2 => .str [97, 32, 98] | 3 => .non | 4 => .int 3 | 5 => .lst [.str [97]] | 6 => .tup [.str [97]]
  | 7 => .str [97, 98, 97, 98, 97, 98, 97, 98, 97, 98, 97, 98, 97, 98, 97, 98, 97, 98, 97, 98, 97, 98, 97, 98, 97, 98] | 8 => .str [97, 10] | 9 => .bl true | 10 => .str [97, 66] | _ => .str [48]
theorem bads_19 : ∀ r, r < 12 → retB (callF gc tab 1000 19 3 [bads r]) false = true := by decide +kernel
theorem bads_16 : ∀ r, r < 12 → retB (callF gc tab 1000 16 3 [bads r]) false = true := by decide +kernel
theorem mul13 : mulD (.str [97, 98]) (.int 13) = some (bads 7) := rfl
theorem sub_bads {r : Nat} (h : r < 12) : subD (.tup [.str [99], .str [65], .str [97, 32, 98], .non, .int 3, .lst [.str [97]], .tup [.str [97]], bads 7, .str [97, 10], .bl true, .str [97, 66], .str [48]]) (.int r) = some (bads r) := by
  match r, h with
  | 0, _ | 1, _ | 2, _ | 3, _ | 4, _ | 5, _ | 6, _ | 7, _ | 8, _ | 9, _ | 10, _ | 11, _ => rfl
theorem a_bad {k : Nat} : (callF gc tab 1000 (k + 2) 110 [.opq 0, .opq 1]).Al fun r => ∃ i, i < 12 ∧ r = .ok (bads i) := by
  refine call_all b__law_bad b__law_bad.eq_1 (by simp only [List.map_cons, List.map_nil, Nat.reduceSub, List.replicate, List.cons_append, List.nil_append] <;> exact rfl) rfl ?_
  have d := call_drw (gc := gc) (T := tab) (wn := 1000) (k := k) (i := 19) 12 (by decide)
  refine st_nx (by simp only [runF, exSs, exS, evE, evEs, evO, evT, evR, evRs, bnd, onE, onN, F.bind, op2, rdV, rdVs, lfD, lf, bopD, cmpD, bltD, truD, dats, dats0, isScal, anyR, asg, asgs, endD, sets, noEx, isOwn, add_ii, sub_ii, lt_ii, gt_ii, le_ii, isD, Option.map_some, Option.map_none, Option.bind_some, Option.bind_none, Option.map, Option.bind, List.getD_cons_zero, List.getD_cons_succ, List.set_cons_zero, List.set_cons_succ, List.length_cons, List.length_nil, List.map_cons, List.map_nil, List.cons_append, List.nil_append, List.replicate, Nat.reduceAdd, Nat.reduceSub, Nat.reduceLT, Nat.reduceLeDiff, Nat.reduceBEq, Nat.beq, Nat.ble, if_true, if_false, ite_true, ite_false, reduceIte, Bool.not_true, Bool.not_false, Bool.or_true, Bool.true_or, Bool.false_or, Bool.or_false, List.getElem?_cons_zero, List.getElem?_cons_succ, mul13] <;> exact rfl) ?_
  have l12 : lenD [.tup [.str [99], .str [65], .str [97, 32, 98], .non, .int 3, .lst [.str [97]], .tup [.str [97]], bads 7, .str [97, 10], .bl true, .str [97, 66], .str [48]]] = some (.int 12) := rfl
  refine st_all (Q := fun r => ∃ i h, i < 12 ∧ r = .rt (.d (bads i)) h) ?_ ?_
  · simp only [runF, exSs, exS, evE, evEs, evO, evT, evR, evRs, bnd, onE, onN, F.bind, op2, rdV, rdVs, lfD, lf, bopD, cmpD, bltD, truD, dats, dats0, isScal, anyR, asg, asgs, endD, sets, noEx, isOwn, add_ii, sub_ii, lt_ii, gt_ii, le_ii, isD, Option.map_some, Option.map_none, Option.bind_some, Option.bind_none, Option.map, Option.bind, List.getD_cons_zero, List.getD_cons_succ, List.set_cons_zero, List.set_cons_succ, List.length_cons, List.length_nil, List.map_cons, List.map_nil, List.cons_append, List.nil_append, List.replicate, Nat.reduceAdd, Nat.reduceSub, Nat.reduceLT, Nat.reduceLeDiff, Nat.reduceBEq, Nat.beq, Nat.ble, if_true, if_false, ite_true, ite_false, reduceIte, Bool.not_true, Bool.not_false, Bool.or_true, Bool.true_or, Bool.false_or, Bool.or_false, List.getElem?_cons_zero, List.getElem?_cons_succ, l12, d, bind_draw, Al_draw]
    intro r hr
    have hr : r < 12 := hr
    simp only [runF, exSs, exS, evE, evEs, evO, evT, evR, evRs, bnd, onE, onN, F.bind, op2, rdV, rdVs, lfD, lf, bopD, cmpD, bltD, truD, dats, dats0, isScal, anyR, asg, asgs, endD, sets, noEx, isOwn, add_ii, sub_ii, lt_ii, gt_ii, le_ii, isD, Option.map_some, Option.map_none, Option.bind_some, Option.bind_none, Option.map, Option.bind, List.getD_cons_zero, List.getD_cons_succ, List.set_cons_zero, List.set_cons_succ, List.length_cons, List.length_nil, List.map_cons, List.map_nil, List.cons_append, List.nil_append, List.replicate, Nat.reduceAdd, Nat.reduceSub, Nat.reduceLT, Nat.reduceLeDiff, Nat.reduceBEq, Nat.beq, Nat.ble, if_true, if_false, ite_true, ite_false, reduceIte, Bool.not_true, Bool.not_false, Bool.or_true, Bool.true_or, Bool.false_or, Bool.or_false, List.getElem?_cons_zero, List.getElem?_cons_succ, sub_bads hr, Al_ret]
    exact ⟨r, _, hr, rfl⟩
  · rintro _ ⟨i, h, hi, rfl⟩
    exact al_ret ⟨i, hi, rfl⟩
/-! ### values that are no ways -/
def parts (w : Way) : List D := [.str (lookS w.look), .int w.win, .int w.least, .int w.most, .int w.own, .str (tieS w.far)]
def things : Nat → D
  | 0 => .int 0 | 1 => .int 1 | 2 => .int 5 | 3 => .bl true | 4 => .str [110, 111, 119, 32] | 5 => .non | 6 => .str [110, 101, 97, 114] | 7 => .tup [.int 2] | _ => .int (-1)
theorem sub_things {r : Nat} (h : r < 9) : subD (.tup [.int 0, .int 1, .int 5, .bl true, .str [110, 111, 119, 32], .non, .str [110, 101, 97, 114], .tup [.int 2], .int (-1)]) (.int r) = some (things r) := by
  match r, h with
  | 0, _ | 1, _ | 2, _ | 3, _ | 4, _ | 5, _ | 6, _ | 7, _ | 8, _ => rfl
theorem sIx_nat (n d m : Nat) : sIxD n d (some (m : Int)) = min m n := by
  show (if (m : Int) < 0 then ((m : Int) + (n : Int)).toNat else Nat.min ((m : Int)).toNat n) = _
  rw [if_neg (by omega), show ((m : Int)).toNat = m by omega]
theorem slc_take {xs : List D} {z : Int} {n : Nat} (hz : z = (n : Int)) : slcD (.tup xs) none (some z) = some (.tup (xs.take n)) := by
  subst hz
  show some (D.tup ((xs.drop 0).take (sIxD xs.length xs.length (some (n : Int)) - 0))) = _
  rw [sIx_nat, List.drop_zero, Nat.sub_zero]
  congr 2
  rw [List.take_eq_take_iff]
  omega
theorem slc_drop {xs : List D} {z : Int} {n : Nat} (hz : z = (n : Int)) : slcD (.tup xs) (some z) none = some (.tup (xs.drop n)) := by
  subst hz
  show some (D.tup ((xs.drop (sIxD xs.length 0 (some (n : Int)))).take (xs.length - sIxD xs.length 0 (some (n : Int))))) = _
  rw [sIx_nat]
  by_cases h : n ≤ xs.length
  · rw [Nat.min_eq_left h, List.take_of_length_le (by rw [List.length_drop]; omega)]
  · rw [Nat.min_eq_right (by omega), List.drop_of_length_le (by omega), List.drop_of_length_le (by omega), List.take_nil]
/-- a part of a way, or a thing -/
def Small (d : D) : Prop := d.plain = true ∧ D.shp 58 d = true
theorem small_parts (w : Way) : ∀ d ∈ parts w, Small d := fun d hd => by
  simp only [parts, List.mem_cons, List.not_mem_nil, or_false] at hd
  rcases hd with rfl | rfl | rfl | rfl | rfl | rfl
  · cases w.look <;> exact ⟨rfl, rfl⟩
  · exact ⟨rfl, rfl⟩
  · exact ⟨rfl, rfl⟩
  · exact ⟨rfl, rfl⟩
  · exact ⟨rfl, rfl⟩
  · cases w.far <;> exact ⟨rfl, rfl⟩
theorem small_things (r : Nat) : Small (things r) := by
  unfold things
  split <;> exact ⟨rfl, rfl⟩
theorem shps_mem (n : Nat) : ∀ {l : List D}, (∀ d ∈ l, D.shp n d = true) → D.shps n l = true
  | [], _ => by cases n <;> rfl
  | d :: l, h => by
    rw [D.shps, h d List.mem_cons_self, shps_mem n fun x hx => h x (List.mem_cons_of_mem _ hx)]
    rfl
theorem shp_up (d : D) (h : D.shp 58 d = true) : D.shp 59 d = true := by
  cases d with
  | tup xs =>
    have h : D.shps 57 xs = true := h
    show D.shps 58 xs = true
    exact shps_up xs h
  | lst xs =>
    have h : D.shps 57 xs = true := h
    show D.shps 58 xs = true
    exact shps_up xs h
  | non => rfl
  | bl b => rfl
  | int i => rfl
  | str s => exact h
  | opq n => exact h
where
  shp_up1 : ∀ (n : Nat) (d : D), D.shp n d = true → D.shp (n + 1) d = true
    | 0, .tup xs, h => by cases h
    | 0, .lst xs, h => by cases h
    | n + 1, .tup xs, h => shps_up1 n xs h
    | n + 1, .lst xs, h => shps_up1 n xs h
    | n, .non, h => by cases n <;> rfl
    | n, .bl _, h => by cases n <;> rfl
    | n, .int _, h => by cases n <;> rfl
    | 0, .str s, h => h
    | n + 1, .str s, h => h
    | 0, .opq _, h => by cases h
    | n + 1, .opq _, h => by cases h
  shps_up1 : ∀ (n : Nat) (l : List D), D.shps n l = true → D.shps (n + 1) l = true
    | n, [], h => by cases n <;> rfl
    | n, x :: l, h => by
      rw [D.shps, Bool.and_eq_true] at h
      rw [D.shps, shp_up1 n x h.1, shps_up1 n l h.2]
      rfl
  shps_up (xs : List D) (h : D.shps 57 xs = true) : D.shps 58 xs = true := shps_up1 57 xs h
def OddOk (d : D) : Prop := d.plains = true ∧ D.shp 60 d = true
theorem odd_tup {l : List D} (h : ∀ d ∈ l, Small d) : OddOk (.tup l) :=
  ⟨List.all_eq_true.mpr fun d hd => (h d hd).1, shps_mem 59 fun d hd => shp_up d (h d hd).2⟩
theorem a_odd {k : Nat} (w : Way) : (callF gc tab 1000 (k + 2) 109 [.opq 0, .opq 1, w.d]).Al fun r => ∃ d, OddOk d ∧ r = .ok d := by
  refine call_all b__law_odd b__law_odd.eq_1 (by simp only [List.map_cons, List.map_nil, Nat.reduceSub, List.replicate, List.cons_append, List.nil_append] <;> exact rfl) rfl ?_
  have d6 := call_drw (gc := gc) (T := tab) (wn := 1000) (k := k) (i := 19) 6 (by decide)
  have d9 := call_drw (gc := gc) (T := tab) (wn := 1000) (k := k) (i := 19) 9 (by decide)
  have d10 := call_drw (gc := gc) (T := tab) (wn := 1000) (k := k) (i := 19) 10 (by decide)
  refine st_all (Q := fun r => ∃ i : Nat, i < 6 ∧ r = .nx [vd (.opq 0), vd (.opq 1), vd w.d, vi i, none, none] []) ?_ ?_
  · simp only [runF, exSs, exS, evE, evEs, evO, evT, evR, evRs, bnd, onE, onN, F.bind, op2, rdV, rdVs, lfD, lf, bopD, cmpD, bltD, truD, dats, dats0, isScal, anyR, asg, asgs, endD, sets, noEx, isOwn, add_ii, sub_ii, lt_ii, gt_ii, le_ii, isD, Option.map_some, Option.map_none, Option.bind_some, Option.bind_none, Option.map, Option.bind, List.getD_cons_zero, List.getD_cons_succ, List.set_cons_zero, List.set_cons_succ, List.length_cons, List.length_nil, List.map_cons, List.map_nil, List.cons_append, List.nil_append, List.replicate, Nat.reduceAdd, Nat.reduceSub, Nat.reduceLT, Nat.reduceLeDiff, Nat.reduceBEq, Nat.beq, Nat.ble, if_true, if_false, ite_true, ite_false, reduceIte, Bool.not_true, Bool.not_false, Bool.or_true, Bool.true_or, Bool.false_or, Bool.or_false, List.getElem?_cons_zero, List.getElem?_cons_succ, d6, bind_draw, Al_draw]
    intro r hr
    simp only [Al_ret]
    exact ⟨r, hr, rfl⟩
  rintro _ ⟨i, hi, rfl⟩
  refine st_all (Q := fun r => ∃ j : Nat, j < 9 ∧ r = .nx [vd (.opq 0), vd (.opq 1), vd w.d, vi i, vd (things j), none] []) ?_ ?_
  · simp only [runF, exSs, exS, evE, evEs, evO, evT, evR, evRs, bnd, onE, onN, F.bind, op2, rdV, rdVs, lfD, lf, bopD, cmpD, bltD, truD, dats, dats0, isScal, anyR, asg, asgs, endD, sets, noEx, isOwn, add_ii, sub_ii, lt_ii, gt_ii, le_ii, isD, Option.map_some, Option.map_none, Option.bind_some, Option.bind_none, Option.map, Option.bind, List.getD_cons_zero, List.getD_cons_succ, List.set_cons_zero, List.set_cons_succ, List.length_cons, List.length_nil, List.map_cons, List.map_nil, List.cons_append, List.nil_append, List.replicate, Nat.reduceAdd, Nat.reduceSub, Nat.reduceLT, Nat.reduceLeDiff, Nat.reduceBEq, Nat.beq, Nat.ble, if_true, if_false, ite_true, ite_false, reduceIte, Bool.not_true, Bool.not_false, Bool.or_true, Bool.true_or, Bool.false_or, Bool.or_false, List.getElem?_cons_zero, List.getElem?_cons_succ, d9, bind_draw, Al_draw]
    intro r hr
    have hr : r < 9 := hr
    simp only [runF, exSs, exS, evE, evEs, evO, evT, evR, evRs, bnd, onE, onN, F.bind, op2, rdV, rdVs, lfD, lf, bopD, cmpD, bltD, truD, dats, dats0, isScal, anyR, asg, asgs, endD, sets, noEx, isOwn, add_ii, sub_ii, lt_ii, gt_ii, le_ii, isD, Option.map_some, Option.map_none, Option.bind_some, Option.bind_none, Option.map, Option.bind, List.getD_cons_zero, List.getD_cons_succ, List.set_cons_zero, List.set_cons_succ, List.length_cons, List.length_nil, List.map_cons, List.map_nil, List.cons_append, List.nil_append, List.replicate, Nat.reduceAdd, Nat.reduceSub, Nat.reduceLT, Nat.reduceLeDiff, Nat.reduceBEq, Nat.beq, Nat.ble, if_true, if_false, ite_true, ite_false, reduceIte, Bool.not_true, Bool.not_false, Bool.or_true, Bool.true_or, Bool.false_or, Bool.or_false, List.getElem?_cons_zero, List.getElem?_cons_succ, sub_things hr, Al_ret]
    exact ⟨r, hr, rfl⟩
  rintro _ ⟨j, hj, rfl⟩
  have p1 : slcD w.d none (some (-1)) = some (.tup ((parts w).take 5)) := rfl
  have p2 : addD w.d (.tup [.str [110, 101, 97, 114]]) = some (.tup (parts w ++ [.str [110, 101, 97, 114]])) := add_tt (s := parts w) (by simp [parts])
  have p3 : listD [w.d] = some (.lst (parts w)) := rfl
  refine st_nx (by simp only [runF, exSs, exS, evE, evEs, evO, evT, evR, evRs, bnd, onE, onN, F.bind, op2, rdV, rdVs, lfD, lf, bopD, cmpD, bltD, truD, dats, dats0, isScal, anyR, asg, asgs, endD, sets, noEx, isOwn, add_ii, sub_ii, lt_ii, gt_ii, le_ii, isD, Option.map_some, Option.map_none, Option.bind_some, Option.bind_none, Option.map, Option.bind, List.getD_cons_zero, List.getD_cons_succ, List.set_cons_zero, List.set_cons_succ, List.length_cons, List.length_nil, List.map_cons, List.map_nil, List.cons_append, List.nil_append, List.replicate, Nat.reduceAdd, Nat.reduceSub, Nat.reduceLT, Nat.reduceLeDiff, Nat.reduceBEq, Nat.beq, Nat.ble, if_true, if_false, ite_true, ite_false, reduceIte, Bool.not_true, Bool.not_false, Bool.or_true, Bool.true_or, Bool.false_or, Bool.or_false, List.getElem?_cons_zero, List.getElem?_cons_succ, p1, p2, p3] <;> exact rfl) ?_
  have q1 : slcD w.d none (some (i : Int)) = some (.tup ((parts w).take i)) := slc_take rfl
  have q2 : slcD w.d (some ((i : Int) + 1)) none = some (.tup ((parts w).drop (i + 1))) := slc_drop (n := i + 1) (by omega)
  have q3 : addD (.tup ((parts w).take i)) (.tup [things j]) = some (.tup ((parts w).take i ++ [things j])) := add_tt (by simp [parts]; omega)
  have q4 : addD (.tup ((parts w).take i ++ [things j])) (.tup ((parts w).drop (i + 1))) = some (.tup (((parts w).take i ++ [things j]) ++ (parts w).drop (i + 1))) := add_tt (by simp [parts]; omega)
  generalize hL : [D.tup ((parts w).take 5), .tup (parts w ++ [.str [110, 101, 97, 114]]), .lst (parts w), .non, .str [110, 111, 119], .int 3, .tup [], .tup [.str [110, 111, 119], .int 3, .int 3, .int 2, .int 1, .str [110, 101, 97, 114]]] = L
  have hLl : L.length = 8 := by rw [← hL]; rfl
  have q5 : ∀ x, addD (.lst L) (.lst [x, x]) = some (.lst (L ++ [x, x])) := fun x => if_pos (by rw [hLl]; show 8 + 2 ≤ 1000000; omega)
  refine st_nx (by simp only [runF, exSs, exS, evE, evEs, evO, evT, evR, evRs, bnd, onE, onN, F.bind, op2, rdV, rdVs, lfD, lf, bopD, cmpD, bltD, truD, dats, dats0, isScal, anyR, asg, asgs, endD, sets, noEx, isOwn, add_ii, sub_ii, lt_ii, gt_ii, le_ii, isD, Option.map_some, Option.map_none, Option.bind_some, Option.bind_none, Option.map, Option.bind, List.getD_cons_zero, List.getD_cons_succ, List.set_cons_zero, List.set_cons_succ, List.length_cons, List.length_nil, List.map_cons, List.map_nil, List.cons_append, List.nil_append, List.replicate, Nat.reduceAdd, Nat.reduceSub, Nat.reduceLT, Nat.reduceLeDiff, Nat.reduceBEq, Nat.beq, Nat.ble, if_true, if_false, ite_true, ite_false, reduceIte, Bool.not_true, Bool.not_false, Bool.or_true, Bool.true_or, Bool.false_or, Bool.or_false, List.getElem?_cons_zero, List.getElem?_cons_succ, q1, q2, q3, q4, q5] <;> exact rfl) ?_
  have hok : ∀ d ∈ L ++ [.tup (((parts w).take i ++ [things j]) ++ (parts w).drop (i + 1)), .tup (((parts w).take i ++ [things j]) ++ (parts w).drop (i + 1))], OddOk d := by
    have hs : OddOk (.tup (((parts w).take i ++ [things j]) ++ (parts w).drop (i + 1))) := odd_tup fun d hd => by
      rcases List.mem_append.mp hd with hd | hd
      · rcases List.mem_append.mp hd with hd | hd
        · exact small_parts w d (List.mem_of_mem_take hd)
        · rw [List.mem_singleton.mp hd]; exact small_things j
      · exact small_parts w d (List.mem_of_mem_drop hd)
    intro d hd
    rcases List.mem_append.mp hd with hd | hd
    · rw [← hL] at hd
      simp only [List.mem_cons, List.not_mem_nil, or_false] at hd
      rcases hd with rfl | rfl | rfl | rfl | rfl | rfl | rfl | rfl
      · exact odd_tup fun d hd => small_parts w d (List.mem_of_mem_take hd)
      · exact odd_tup fun d hd => by
          rcases List.mem_append.mp hd with hd | hd
          · exact small_parts w d hd
          · rw [List.mem_singleton.mp hd]; exact ⟨rfl, rfl⟩
      · exact ⟨rfl, shps_mem 59 fun d hd => shp_up d (small_parts w d hd).2⟩
      · exact ⟨rfl, rfl⟩
      · exact ⟨rfl, rfl⟩
      · exact ⟨rfl, rfl⟩
      · exact ⟨rfl, rfl⟩
      · exact ⟨rfl, rfl⟩
    · simp only [List.mem_cons, List.not_mem_nil, or_false] at hd
      rcases hd with rfl | rfl <;> exact hs
  generalize hM : L ++ [D.tup (((parts w).take i ++ [things j]) ++ (parts w).drop (i + 1)), .tup (((parts w).take i ++ [things j]) ++ (parts w).drop (i + 1))] = Mx at hok
  have hMl : Mx.length = 10 := by rw [← hM, List.length_append, hLl]; rfl
  have l10 : lenD [.lst Mx] = some (.int 10) := by
    show some (D.int (Mx.length : Nat)) = _
    rw [hMl]
    rfl
  refine st_all (Q := fun r => ∃ d h, OddOk d ∧ r = .rt (.d d) h) ?_ ?_
  · simp only [runF, exSs, exS, evE, evEs, evO, evT, evR, evRs, bnd, onE, onN, F.bind, op2, rdV, rdVs, lfD, lf, bopD, cmpD, bltD, truD, dats, dats0, isScal, anyR, asg, asgs, endD, sets, noEx, isOwn, add_ii, sub_ii, lt_ii, gt_ii, le_ii, isD, Option.map_some, Option.map_none, Option.bind_some, Option.bind_none, Option.map, Option.bind, List.getD_cons_zero, List.getD_cons_succ, List.set_cons_zero, List.set_cons_succ, List.length_cons, List.length_nil, List.map_cons, List.map_nil, List.cons_append, List.nil_append, List.replicate, Nat.reduceAdd, Nat.reduceSub, Nat.reduceLT, Nat.reduceLeDiff, Nat.reduceBEq, Nat.beq, Nat.ble, if_true, if_false, ite_true, ite_false, reduceIte, Bool.not_true, Bool.not_false, Bool.or_true, Bool.true_or, Bool.false_or, Bool.or_false, List.getElem?_cons_zero, List.getElem?_cons_succ, l10, d10, bind_draw, Al_draw]
    intro r hr
    have hr : r < Mx.length := by rw [hMl]; exact hr
    have hs : subD (.lst Mx) (.int r) = some Mx[r] := at_nat rfl hr
    simp only [runF, exSs, exS, evE, evEs, evO, evT, evR, evRs, bnd, onE, onN, F.bind, op2, rdV, rdVs, lfD, lf, bopD, cmpD, bltD, truD, dats, dats0, isScal, anyR, asg, asgs, endD, sets, noEx, isOwn, add_ii, sub_ii, lt_ii, gt_ii, le_ii, isD, Option.map_some, Option.map_none, Option.bind_some, Option.bind_none, Option.map, Option.bind, List.getD_cons_zero, List.getD_cons_succ, List.set_cons_zero, List.set_cons_succ, List.length_cons, List.length_nil, List.map_cons, List.map_nil, List.cons_append, List.nil_append, List.replicate, Nat.reduceAdd, Nat.reduceSub, Nat.reduceLT, Nat.reduceLeDiff, Nat.reduceBEq, Nat.beq, Nat.ble, if_true, if_false, ite_true, ite_false, reduceIte, Bool.not_true, Bool.not_false, Bool.or_true, Bool.true_or, Bool.false_or, Bool.or_false, List.getElem?_cons_zero, List.getElem?_cons_succ, hs, Al_ret]
    exact ⟨_, _, hok _ (List.getElem_mem hr), rfl⟩
  · rintro _ ⟨d, h, hd, rfl⟩
    exact al_ret ⟨d, hd, rfl⟩
theorem c_lis {k : Nat} (a b : Bool) : callF gc tab 1000 (k + 1) 108 [.bl a, .bl b] = ok (.bl (a == b)) := by
  rw [call_has b__law_is]
  have e : eqD (.bl a) (.bl b) = some (a == b) := by cases a <;> cases b <;> rfl
  simp only [runF, exSs, exS, evE, evEs, evO, evT, evR, evRs, bnd, onE, onN, F.bind, op2, rdV, rdVs, lfD, lf, bopD, cmpD, bltD, truD, dats, dats0, isScal, anyR, asg, asgs, endD, sets, noEx, isOwn, add_ii, sub_ii, lt_ii, gt_ii, le_ii, isD, Option.map_some, Option.map_none, Option.bind_some, Option.bind_none, Option.map, Option.bind, List.getD_cons_zero, List.getD_cons_succ, List.set_cons_zero, List.set_cons_succ, List.length_cons, List.length_nil, List.map_cons, List.map_nil, List.cons_append, List.nil_append, List.replicate, Nat.reduceAdd, Nat.reduceSub, Nat.reduceLT, Nat.reduceLeDiff, Nat.reduceBEq, Nat.beq, Nat.ble, if_true, if_false, ite_true, ite_false, reduceIte, Bool.not_true, Bool.not_false, Bool.or_true, Bool.true_or, Bool.false_or, Bool.or_false, List.getElem?_cons_zero, List.getElem?_cons_succ, b__law_is, ityD, e]
/-! ### refusals in order -/
abbrev sixL (s : List Nat) : List D := [.tup [.str s], .tup [.str s], .tup [.str s], .tup [.str s], .tup [.str s], .tup [.str s]]
abbrev six (s : List Nat) : D := .lst (sixL s)
theorem c_orders {w : Way} (hw : w.Ok) {d : D} (hd : OddOk d) (hn : wayB d = false) {i : Nat} (hi : i < 12) {s : List Nat} (hs : AB s) (hl : s.length ≤ 24) : callF gc tab 1000 19 107 [w.d, d, bads i, .str s] = ok (.bl true) := by
  have hb : BadT gc tab 1000 15 (bads i) := retB_ok (bads_16 i hi)
  have p := hd.1
  refine call_rt b__law_orders (v := .d (.bl true)) (h1 := [.lst (sixL [114, 117, 108, 101]), .lst (sixL [108, 105, 110, 101])]) b__law_orders.eq_1 (by simp only [List.map_cons, List.map_nil, Nat.reduceSub, List.replicate, List.cons_append, List.nil_append] <;> exact rfl) rfl ?_ rfl
  have bl : ∀ l : List D, l.length ≤ 200 → Nat.blt l.length lim = true := fun l h => blt_lim h
  have r1 := x_write (gc := gc) (T := tab) (wn := 1000) (k := 14) p hn (bads i)
  have r2 := x_see (gc := gc) (T := tab) (wn := 1000) (k := 14) p hn (bads i) (.str [110, 111, 110, 101])
  have r3 := x_least (gc := gc) (T := tab) (wn := 1000) (k := 14) p hn (bads i)
  have r4 := x_copies (gc := gc) (T := tab) (wn := 1000) (k := 14) p hn (bads i) (.int (-1))
  have r5 := x_best (gc := gc) (T := tab) (wn := 1000) (k := 14) p hn (bads i) (.int (-1))
  have r6 := x_joined (gc := gc) (T := tab) (wn := 1000) (k := 14) p hn (bads i) (bads i)
  have b0 : ∀ n, n ≤ 10 → Nat.blt n lim = true := fun n h => blt_lim (by omega)
  refine sq_nx (by simp only [runF, exSs, exS, evE, evEs, evO, evT, evR, evRs, bnd, onE, onN, F.bind, op2, rdV, rdVs, lfD, lf, bopD, cmpD, bltD, truD, dats, dats0, isScal, anyR, asg, asgs, endD, sets, noEx, isOwn, add_ii, sub_ii, lt_ii, gt_ii, le_ii, isD, Option.map_some, Option.map_none, Option.bind_some, Option.bind_none, Option.map, Option.bind, List.getD_cons_zero, List.getD_cons_succ, List.set_cons_zero, List.set_cons_succ, List.length_cons, List.length_nil, List.map_cons, List.map_nil, List.cons_append, List.nil_append, List.replicate, Nat.reduceAdd, Nat.reduceSub, Nat.reduceLT, Nat.reduceLeDiff, Nat.reduceBEq, Nat.beq, Nat.ble, if_true, if_false, ite_true, ite_false, reduceIte, Bool.not_true, Bool.not_false, Bool.or_true, Bool.true_or, Bool.false_or, Bool.or_false, List.getElem?_cons_zero, List.getElem?_cons_succ, r1, exNm] <;> exact rfl) ?_
  refine sq_nx (by simp only [runF, exSs, exS, evE, evEs, evO, evT, evR, evRs, bnd, onE, onN, F.bind, op2, rdV, rdVs, lfD, lf, bopD, cmpD, bltD, truD, dats, dats0, isScal, anyR, asg, asgs, endD, sets, noEx, isOwn, add_ii, sub_ii, lt_ii, gt_ii, le_ii, isD, Option.map_some, Option.map_none, Option.bind_some, Option.bind_none, Option.map, Option.bind, List.getD_cons_zero, List.getD_cons_succ, List.set_cons_zero, List.set_cons_succ, List.length_cons, List.length_nil, List.map_cons, List.map_nil, List.cons_append, List.nil_append, List.replicate, Nat.reduceAdd, Nat.reduceSub, Nat.reduceLT, Nat.reduceLeDiff, Nat.reduceBEq, Nat.beq, Nat.ble, if_true, if_false, ite_true, ite_false, reduceIte, Bool.not_true, Bool.not_false, Bool.or_true, Bool.true_or, Bool.false_or, Bool.or_false, List.getElem?_cons_zero, List.getElem?_cons_succ, r2, exNm, b0 1 (by omega)] <;> exact rfl) ?_
  refine sq_nx (by simp only [runF, exSs, exS, evE, evEs, evO, evT, evR, evRs, bnd, onE, onN, F.bind, op2, rdV, rdVs, lfD, lf, bopD, cmpD, bltD, truD, dats, dats0, isScal, anyR, asg, asgs, endD, sets, noEx, isOwn, add_ii, sub_ii, lt_ii, gt_ii, le_ii, isD, Option.map_some, Option.map_none, Option.bind_some, Option.bind_none, Option.map, Option.bind, List.getD_cons_zero, List.getD_cons_succ, List.set_cons_zero, List.set_cons_succ, List.length_cons, List.length_nil, List.map_cons, List.map_nil, List.cons_append, List.nil_append, List.replicate, Nat.reduceAdd, Nat.reduceSub, Nat.reduceLT, Nat.reduceLeDiff, Nat.reduceBEq, Nat.beq, Nat.ble, if_true, if_false, ite_true, ite_false, reduceIte, Bool.not_true, Bool.not_false, Bool.or_true, Bool.true_or, Bool.false_or, Bool.or_false, List.getElem?_cons_zero, List.getElem?_cons_succ, r3, exNm, b0 2 (by omega)] <;> exact rfl) ?_
  refine sq_nx (by simp only [runF, exSs, exS, evE, evEs, evO, evT, evR, evRs, bnd, onE, onN, F.bind, op2, rdV, rdVs, lfD, lf, bopD, cmpD, bltD, truD, dats, dats0, isScal, anyR, asg, asgs, endD, sets, noEx, isOwn, add_ii, sub_ii, lt_ii, gt_ii, le_ii, isD, Option.map_some, Option.map_none, Option.bind_some, Option.bind_none, Option.map, Option.bind, List.getD_cons_zero, List.getD_cons_succ, List.set_cons_zero, List.set_cons_succ, List.length_cons, List.length_nil, List.map_cons, List.map_nil, List.cons_append, List.nil_append, List.replicate, Nat.reduceAdd, Nat.reduceSub, Nat.reduceLT, Nat.reduceLeDiff, Nat.reduceBEq, Nat.beq, Nat.ble, if_true, if_false, ite_true, ite_false, reduceIte, Bool.not_true, Bool.not_false, Bool.or_true, Bool.true_or, Bool.false_or, Bool.or_false, List.getElem?_cons_zero, List.getElem?_cons_succ, r4, exNm, b0 3 (by omega)] <;> exact rfl) ?_
  refine sq_nx (by simp only [runF, exSs, exS, evE, evEs, evO, evT, evR, evRs, bnd, onE, onN, F.bind, op2, rdV, rdVs, lfD, lf, bopD, cmpD, bltD, truD, dats, dats0, isScal, anyR, asg, asgs, endD, sets, noEx, isOwn, add_ii, sub_ii, lt_ii, gt_ii, le_ii, isD, Option.map_some, Option.map_none, Option.bind_some, Option.bind_none, Option.map, Option.bind, List.getD_cons_zero, List.getD_cons_succ, List.set_cons_zero, List.set_cons_succ, List.length_cons, List.length_nil, List.map_cons, List.map_nil, List.cons_append, List.nil_append, List.replicate, Nat.reduceAdd, Nat.reduceSub, Nat.reduceLT, Nat.reduceLeDiff, Nat.reduceBEq, Nat.beq, Nat.ble, if_true, if_false, ite_true, ite_false, reduceIte, Bool.not_true, Bool.not_false, Bool.or_true, Bool.true_or, Bool.false_or, Bool.or_false, List.getElem?_cons_zero, List.getElem?_cons_succ, r5, exNm, b0 4 (by omega)] <;> exact rfl) ?_
  refine sq_nx (by simp only [runF, exSs, exS, evE, evEs, evO, evT, evR, evRs, bnd, onE, onN, F.bind, op2, rdV, rdVs, lfD, lf, bopD, cmpD, bltD, truD, dats, dats0, isScal, anyR, asg, asgs, endD, sets, noEx, isOwn, add_ii, sub_ii, lt_ii, gt_ii, le_ii, isD, Option.map_some, Option.map_none, Option.bind_some, Option.bind_none, Option.map, Option.bind, List.getD_cons_zero, List.getD_cons_succ, List.set_cons_zero, List.set_cons_succ, List.length_cons, List.length_nil, List.map_cons, List.map_nil, List.cons_append, List.nil_append, List.replicate, Nat.reduceAdd, Nat.reduceSub, Nat.reduceLT, Nat.reduceLeDiff, Nat.reduceBEq, Nat.beq, Nat.ble, if_true, if_false, ite_true, ite_false, reduceIte, Bool.not_true, Bool.not_false, Bool.or_true, Bool.true_or, Bool.false_or, Bool.or_false, List.getElem?_cons_zero, List.getElem?_cons_succ, r6, exNm, b0 5 (by omega)] <;> exact rfl) ?_
  have m1 : mulD (.lst [.tup [.str [114, 117, 108, 101]]]) (.int 6) = some (six [114, 117, 108, 101]) := rfl
  have e1 : eqD (six [114, 117, 108, 101]) (six [114, 117, 108, 101]) = some true := eq_self rfl
  refine sq_nx (by simp only [runF, exSs, exS, evE, evEs, evO, evT, evR, evRs, bnd, onE, onN, F.bind, op2, rdV, rdVs, lfD, lf, bopD, cmpD, bltD, truD, dats, dats0, isScal, anyR, asg, asgs, endD, sets, noEx, isOwn, add_ii, sub_ii, lt_ii, gt_ii, le_ii, isD, Option.map_some, Option.map_none, Option.bind_some, Option.bind_none, Option.map, Option.bind, List.getD_cons_zero, List.getD_cons_succ, List.set_cons_zero, List.set_cons_succ, List.length_cons, List.length_nil, List.map_cons, List.map_nil, List.cons_append, List.nil_append, List.replicate, Nat.reduceAdd, Nat.reduceSub, Nat.reduceLT, Nat.reduceLeDiff, Nat.reduceBEq, Nat.beq, Nat.ble, if_true, if_false, ite_true, ite_false, reduceIte, Bool.not_true, Bool.not_false, Bool.or_true, Bool.true_or, Bool.false_or, Bool.or_false, List.getElem?_cons_zero, List.getElem?_cons_succ, m1, e1] <;> exact rfl) ?_
  have t1 := y_write (gc := gc) (T := tab) (wn := 1000) (k := 14) hw hb
  have t2 := y_see (gc := gc) (T := tab) (wn := 1000) (k := 14) hw hb (.str [110, 111, 110, 101])
  have t3 := y_least (gc := gc) (T := tab) (wn := 1000) (k := 14) hw hb
  have t4 := y_copies (gc := gc) (T := tab) (wn := 1000) (k := 14) hw hb (.int (-1))
  have t5 := y_joined1 (gc := gc) (T := tab) (wn := 1000) (k := 14) hw hb (.str s)
  have t6 := y_joined2 (gc := gc) (T := tab) (wn := 1000) (k := 14) hw hb hs hl
  refine sq_nx (by simp only [runF, exSs, exS, evE, evEs, evO, evT, evR, evRs, bnd, onE, onN, F.bind, op2, rdV, rdVs, lfD, lf, bopD, cmpD, bltD, truD, dats, dats0, isScal, anyR, asg, asgs, endD, sets, noEx, isOwn, add_ii, sub_ii, lt_ii, gt_ii, le_ii, isD, Option.map_some, Option.map_none, Option.bind_some, Option.bind_none, Option.map, Option.bind, List.getD_cons_zero, List.getD_cons_succ, List.set_cons_zero, List.set_cons_succ, List.length_cons, List.length_nil, List.map_cons, List.map_nil, List.cons_append, List.nil_append, List.replicate, Nat.reduceAdd, Nat.reduceSub, Nat.reduceLT, Nat.reduceLeDiff, Nat.reduceBEq, Nat.beq, Nat.ble, if_true, if_false, ite_true, ite_false, reduceIte, Bool.not_true, Bool.not_false, Bool.or_true, Bool.true_or, Bool.false_or, Bool.or_false, List.getElem?_cons_zero, List.getElem?_cons_succ, t1, exNm] <;> exact rfl) ?_
  refine sq_nx (by simp only [runF, exSs, exS, evE, evEs, evO, evT, evR, evRs, bnd, onE, onN, F.bind, op2, rdV, rdVs, lfD, lf, bopD, cmpD, bltD, truD, dats, dats0, isScal, anyR, asg, asgs, endD, sets, noEx, isOwn, add_ii, sub_ii, lt_ii, gt_ii, le_ii, isD, Option.map_some, Option.map_none, Option.bind_some, Option.bind_none, Option.map, Option.bind, List.getD_cons_zero, List.getD_cons_succ, List.set_cons_zero, List.set_cons_succ, List.length_cons, List.length_nil, List.map_cons, List.map_nil, List.cons_append, List.nil_append, List.replicate, Nat.reduceAdd, Nat.reduceSub, Nat.reduceLT, Nat.reduceLeDiff, Nat.reduceBEq, Nat.beq, Nat.ble, if_true, if_false, ite_true, ite_false, reduceIte, Bool.not_true, Bool.not_false, Bool.or_true, Bool.true_or, Bool.false_or, Bool.or_false, List.getElem?_cons_zero, List.getElem?_cons_succ, t2, exNm, b0 1 (by omega)] <;> exact rfl) ?_
  refine sq_nx (by simp only [runF, exSs, exS, evE, evEs, evO, evT, evR, evRs, bnd, onE, onN, F.bind, op2, rdV, rdVs, lfD, lf, bopD, cmpD, bltD, truD, dats, dats0, isScal, anyR, asg, asgs, endD, sets, noEx, isOwn, add_ii, sub_ii, lt_ii, gt_ii, le_ii, isD, Option.map_some, Option.map_none, Option.bind_some, Option.bind_none, Option.map, Option.bind, List.getD_cons_zero, List.getD_cons_succ, List.set_cons_zero, List.set_cons_succ, List.length_cons, List.length_nil, List.map_cons, List.map_nil, List.cons_append, List.nil_append, List.replicate, Nat.reduceAdd, Nat.reduceSub, Nat.reduceLT, Nat.reduceLeDiff, Nat.reduceBEq, Nat.beq, Nat.ble, if_true, if_false, ite_true, ite_false, reduceIte, Bool.not_true, Bool.not_false, Bool.or_true, Bool.true_or, Bool.false_or, Bool.or_false, List.getElem?_cons_zero, List.getElem?_cons_succ, t3, exNm, b0 2 (by omega)] <;> exact rfl) ?_
  refine sq_nx (by simp only [runF, exSs, exS, evE, evEs, evO, evT, evR, evRs, bnd, onE, onN, F.bind, op2, rdV, rdVs, lfD, lf, bopD, cmpD, bltD, truD, dats, dats0, isScal, anyR, asg, asgs, endD, sets, noEx, isOwn, add_ii, sub_ii, lt_ii, gt_ii, le_ii, isD, Option.map_some, Option.map_none, Option.bind_some, Option.bind_none, Option.map, Option.bind, List.getD_cons_zero, List.getD_cons_succ, List.set_cons_zero, List.set_cons_succ, List.length_cons, List.length_nil, List.map_cons, List.map_nil, List.cons_append, List.nil_append, List.replicate, Nat.reduceAdd, Nat.reduceSub, Nat.reduceLT, Nat.reduceLeDiff, Nat.reduceBEq, Nat.beq, Nat.ble, if_true, if_false, ite_true, ite_false, reduceIte, Bool.not_true, Bool.not_false, Bool.or_true, Bool.true_or, Bool.false_or, Bool.or_false, List.getElem?_cons_zero, List.getElem?_cons_succ, t4, exNm, b0 3 (by omega)] <;> exact rfl) ?_
  refine sq_nx (by simp only [runF, exSs, exS, evE, evEs, evO, evT, evR, evRs, bnd, onE, onN, F.bind, op2, rdV, rdVs, lfD, lf, bopD, cmpD, bltD, truD, dats, dats0, isScal, anyR, asg, asgs, endD, sets, noEx, isOwn, add_ii, sub_ii, lt_ii, gt_ii, le_ii, isD, Option.map_some, Option.map_none, Option.bind_some, Option.bind_none, Option.map, Option.bind, List.getD_cons_zero, List.getD_cons_succ, List.set_cons_zero, List.set_cons_succ, List.length_cons, List.length_nil, List.map_cons, List.map_nil, List.cons_append, List.nil_append, List.replicate, Nat.reduceAdd, Nat.reduceSub, Nat.reduceLT, Nat.reduceLeDiff, Nat.reduceBEq, Nat.beq, Nat.ble, if_true, if_false, ite_true, ite_false, reduceIte, Bool.not_true, Bool.not_false, Bool.or_true, Bool.true_or, Bool.false_or, Bool.or_false, List.getElem?_cons_zero, List.getElem?_cons_succ, t5, exNm, b0 4 (by omega)] <;> exact rfl) ?_
  refine sq_nx (by simp only [runF, exSs, exS, evE, evEs, evO, evT, evR, evRs, bnd, onE, onN, F.bind, op2, rdV, rdVs, lfD, lf, bopD, cmpD, bltD, truD, dats, dats0, isScal, anyR, asg, asgs, endD, sets, noEx, isOwn, add_ii, sub_ii, lt_ii, gt_ii, le_ii, isD, Option.map_some, Option.map_none, Option.bind_some, Option.bind_none, Option.map, Option.bind, List.getD_cons_zero, List.getD_cons_succ, List.set_cons_zero, List.set_cons_succ, List.length_cons, List.length_nil, List.map_cons, List.map_nil, List.cons_append, List.nil_append, List.replicate, Nat.reduceAdd, Nat.reduceSub, Nat.reduceLT, Nat.reduceLeDiff, Nat.reduceBEq, Nat.beq, Nat.ble, if_true, if_false, ite_true, ite_false, reduceIte, Bool.not_true, Bool.not_false, Bool.or_true, Bool.true_or, Bool.false_or, Bool.or_false, List.getElem?_cons_zero, List.getElem?_cons_succ, t6, exNm, b0 5 (by omega)] <;> exact rfl) ?_
  have m2 : mulD (.lst [.tup [.str [108, 105, 110, 101]]]) (.int 6) = some (six [108, 105, 110, 101]) := rfl
  have e2 : eqD (six [108, 105, 110, 101]) (six [108, 105, 110, 101]) = some true := eq_self rfl
  exact sq_rt (by simp only [runF, exSs, exS, evE, evEs, evO, evT, evR, evRs, bnd, onE, onN, F.bind, op2, rdV, rdVs, lfD, lf, bopD, cmpD, bltD, truD, dats, dats0, isScal, anyR, asg, asgs, endD, sets, noEx, isOwn, add_ii, sub_ii, lt_ii, gt_ii, le_ii, isD, Option.map_some, Option.map_none, Option.bind_some, Option.bind_none, Option.map, Option.bind, List.getD_cons_zero, List.getD_cons_succ, List.set_cons_zero, List.set_cons_succ, List.length_cons, List.length_nil, List.map_cons, List.map_nil, List.cons_append, List.nil_append, List.replicate, Nat.reduceAdd, Nat.reduceSub, Nat.reduceLT, Nat.reduceLeDiff, Nat.reduceBEq, Nat.beq, Nat.ble, if_true, if_false, ite_true, ite_false, reduceIte, Bool.not_true, Bool.not_false, Bool.or_true, Bool.true_or, Bool.false_or, Bool.or_false, List.getElem?_cons_zero, List.getElem?_cons_succ, m2, e2] <;> exact rfl)
/-! ### places and sights -/
def spots (n : Nat) : Nat → D
  | 0 => .int (-1) | 1 => .int n | 2 => .bl true | 3 => .non | 4 => .str [48] | _ => .int 24
theorem sub_spots (n : Nat) {r : Nat} (h : r < 6) : subD (.tup [.int (-1), .int n, .bl true, .non, .str [48], .int 24]) (.int r) = some (spots n r) := by
  match r, h with
  | 0, _ | 1, _ | 2, _ | 3, _ | 4, _ | 5, _ => rfl
theorem spot_step {cl : Cl} {s : List Nat} (hl : s.length ≤ 24) {r : Nat} (hr : r < 6) (a0 a1 a2 a3 a5 a6 a8 a9 : Option Vv) (h : Hq) : ∃ p : D, p.plain = true ∧ betB p 0 ((s.length : Int) - 1) = false ∧
    exS gc cl 1000 (.ife (.or (.and (.val (.cmp .is (.var 4) (.cst (.bl true)))) (.val (.cmp .gt (.blt .len (.cons (.var 7) .nil)) (.cst (.int 1))))) (.and (.val (.cmp .eq (.var 4) (.cst (.int 24)))) (.val (.cmp .gt (.blt .len (.cons (.var 7) .nil)) (.cst (.int 24)))))) (.cons (.put 4 (.ex (.neg (.cst (.int 1))))) .nil) .nil) [a0, a1, a2, a3, vd (spots s.length r), a5, a6, vs s, a8, a9] h
      = .ret (.nx [a0, a1, a2, a3, vd p, a5, a6, vs s, a8, a9] h) := by
  have l1 := len_str (s := s) (by omega)
  have g24 : decide ((24 : Int) < (s.length : Int)) = false := decide_eq_false (by omega)
  have bm : betB (.int (-1)) 0 ((s.length : Int) - 1) = false := rfl
  match r, hr with
  | 0, _ =>
    have i1 : isD (.int (-1)) (.bl true) = some false := rfl
    have i2 : eqD (.int (-1)) (.int 24) = some false := rfl
    exact ⟨.int (-1), rfl, bm, by simp only [runF, exSs, exS, evE, evEs, evO, evT, evR, evRs, bnd, onE, onN, F.bind, op2, rdV, rdVs, lfD, lf, bopD, cmpD, bltD, truD, dats, dats0, isScal, anyR, asg, asgs, endD, sets, noEx, isOwn, add_ii, sub_ii, lt_ii, gt_ii, le_ii, isD, Option.map_some, Option.map_none, Option.bind_some, Option.bind_none, Option.map, Option.bind, List.getD_cons_zero, List.getD_cons_succ, List.set_cons_zero, List.set_cons_succ, List.length_cons, List.length_nil, List.map_cons, List.map_nil, List.cons_append, List.nil_append, List.replicate, Nat.reduceAdd, Nat.reduceSub, Nat.reduceLT, Nat.reduceLeDiff, Nat.reduceBEq, Nat.beq, Nat.ble, if_true, if_false, ite_true, ite_false, reduceIte, Bool.not_true, Bool.not_false, Bool.or_true, Bool.true_or, Bool.false_or, Bool.or_false, List.getElem?_cons_zero, List.getElem?_cons_succ, spots, i1, i2]⟩
  | 1, _ =>
    have i1 : isD (.int (s.length : Int)) (.bl true) = some false := rfl
    refine ⟨.int s.length, rfl, by simp only [betB, Bool.and_eq_false_iff, decide_eq_false_iff_not]; omega, ?_⟩
    have i2 : eqD (.int (s.length : Int)) (.int 24) = some (decide (s.length = 24)) := eq_nat s.length 24
    cases q : decide (s.length = 24) with
    | false => rw [q] at i2; simp only [runF, exSs, exS, evE, evEs, evO, evT, evR, evRs, bnd, onE, onN, F.bind, op2, rdV, rdVs, lfD, lf, bopD, cmpD, bltD, truD, dats, dats0, isScal, anyR, asg, asgs, endD, sets, noEx, isOwn, add_ii, sub_ii, lt_ii, gt_ii, le_ii, isD, Option.map_some, Option.map_none, Option.bind_some, Option.bind_none, Option.map, Option.bind, List.getD_cons_zero, List.getD_cons_succ, List.set_cons_zero, List.set_cons_succ, List.length_cons, List.length_nil, List.map_cons, List.map_nil, List.cons_append, List.nil_append, List.replicate, Nat.reduceAdd, Nat.reduceSub, Nat.reduceLT, Nat.reduceLeDiff, Nat.reduceBEq, Nat.beq, Nat.ble, if_true, if_false, ite_true, ite_false, reduceIte, Bool.not_true, Bool.not_false, Bool.or_true, Bool.true_or, Bool.false_or, Bool.or_false, List.getElem?_cons_zero, List.getElem?_cons_succ, spots, i1, i2]
    | true => rw [q] at i2; simp only [runF, exSs, exS, evE, evEs, evO, evT, evR, evRs, bnd, onE, onN, F.bind, op2, rdV, rdVs, lfD, lf, bopD, cmpD, bltD, truD, dats, dats0, isScal, anyR, asg, asgs, endD, sets, noEx, isOwn, add_ii, sub_ii, lt_ii, gt_ii, le_ii, isD, Option.map_some, Option.map_none, Option.bind_some, Option.bind_none, Option.map, Option.bind, List.getD_cons_zero, List.getD_cons_succ, List.set_cons_zero, List.set_cons_succ, List.length_cons, List.length_nil, List.map_cons, List.map_nil, List.cons_append, List.nil_append, List.replicate, Nat.reduceAdd, Nat.reduceSub, Nat.reduceLT, Nat.reduceLeDiff, Nat.reduceBEq, Nat.beq, Nat.ble, if_true, if_false, ite_true, ite_false, reduceIte, Bool.not_true, Bool.not_false, Bool.or_true, Bool.true_or, Bool.false_or, Bool.or_false, List.getElem?_cons_zero, List.getElem?_cons_succ, spots, i1, i2, l1, g24]
  | 2, _ =>
    have i1 : isD (.bl true) (.bl true) = some true := rfl
    have i2 : eqD (.bl true) (.int 24) = some false := rfl
    cases q : decide ((1 : Int) < (s.length : Int)) with
    | false => exact ⟨.bl true, rfl, rfl, by simp only [runF, exSs, exS, evE, evEs, evO, evT, evR, evRs, bnd, onE, onN, F.bind, op2, rdV, rdVs, lfD, lf, bopD, cmpD, bltD, truD, dats, dats0, isScal, anyR, asg, asgs, endD, sets, noEx, isOwn, add_ii, sub_ii, lt_ii, gt_ii, le_ii, isD, Option.map_some, Option.map_none, Option.bind_some, Option.bind_none, Option.map, Option.bind, List.getD_cons_zero, List.getD_cons_succ, List.set_cons_zero, List.set_cons_succ, List.length_cons, List.length_nil, List.map_cons, List.map_nil, List.cons_append, List.nil_append, List.replicate, Nat.reduceAdd, Nat.reduceSub, Nat.reduceLT, Nat.reduceLeDiff, Nat.reduceBEq, Nat.beq, Nat.ble, if_true, if_false, ite_true, ite_false, reduceIte, Bool.not_true, Bool.not_false, Bool.or_true, Bool.true_or, Bool.false_or, Bool.or_false, List.getElem?_cons_zero, List.getElem?_cons_succ, spots, i2, l1, q, beq_self_eq_true]⟩
    | true => exact ⟨.int (-1), rfl, bm, by simp only [runF, exSs, exS, evE, evEs, evO, evT, evR, evRs, bnd, onE, onN, F.bind, op2, rdV, rdVs, lfD, lf, bopD, cmpD, bltD, truD, dats, dats0, isScal, anyR, asg, asgs, endD, sets, noEx, isOwn, add_ii, sub_ii, lt_ii, gt_ii, le_ii, isD, Option.map_some, Option.map_none, Option.bind_some, Option.bind_none, Option.map, Option.bind, List.getD_cons_zero, List.getD_cons_succ, List.set_cons_zero, List.set_cons_succ, List.length_cons, List.length_nil, List.map_cons, List.map_nil, List.cons_append, List.nil_append, List.replicate, Nat.reduceAdd, Nat.reduceSub, Nat.reduceLT, Nat.reduceLeDiff, Nat.reduceBEq, Nat.beq, Nat.ble, if_true, if_false, ite_true, ite_false, reduceIte, Bool.not_true, Bool.not_false, Bool.or_true, Bool.true_or, Bool.false_or, Bool.or_false, List.getElem?_cons_zero, List.getElem?_cons_succ, spots, i2, l1, q, beq_self_eq_true]⟩
  | 3, _ =>
    have i1 : isD .non (.bl true) = some false := rfl
    have i2 : eqD .non (.int 24) = some false := rfl
    exact ⟨.non, rfl, rfl, by simp only [runF, exSs, exS, evE, evEs, evO, evT, evR, evRs, bnd, onE, onN, F.bind, op2, rdV, rdVs, lfD, lf, bopD, cmpD, bltD, truD, dats, dats0, isScal, anyR, asg, asgs, endD, sets, noEx, isOwn, add_ii, sub_ii, lt_ii, gt_ii, le_ii, isD, Option.map_some, Option.map_none, Option.bind_some, Option.bind_none, Option.map, Option.bind, List.getD_cons_zero, List.getD_cons_succ, List.set_cons_zero, List.set_cons_succ, List.length_cons, List.length_nil, List.map_cons, List.map_nil, List.cons_append, List.nil_append, List.replicate, Nat.reduceAdd, Nat.reduceSub, Nat.reduceLT, Nat.reduceLeDiff, Nat.reduceBEq, Nat.beq, Nat.ble, if_true, if_false, ite_true, ite_false, reduceIte, Bool.not_true, Bool.not_false, Bool.or_true, Bool.true_or, Bool.false_or, Bool.or_false, List.getElem?_cons_zero, List.getElem?_cons_succ, spots, i1, i2]⟩
  | 4, _ =>
    have i1 : isD (.str [48]) (.bl true) = some false := rfl
    have i2 : eqD (.str [48]) (.int 24) = some false := rfl
    exact ⟨.str [48], rfl, rfl, by simp only [runF, exSs, exS, evE, evEs, evO, evT, evR, evRs, bnd, onE, onN, F.bind, op2, rdV, rdVs, lfD, lf, bopD, cmpD, bltD, truD, dats, dats0, isScal, anyR, asg, asgs, endD, sets, noEx, isOwn, add_ii, sub_ii, lt_ii, gt_ii, le_ii, isD, Option.map_some, Option.map_none, Option.bind_some, Option.bind_none, Option.map, Option.bind, List.getD_cons_zero, List.getD_cons_succ, List.set_cons_zero, List.set_cons_succ, List.length_cons, List.length_nil, List.map_cons, List.map_nil, List.cons_append, List.nil_append, List.replicate, Nat.reduceAdd, Nat.reduceSub, Nat.reduceLT, Nat.reduceLeDiff, Nat.reduceBEq, Nat.beq, Nat.ble, if_true, if_false, ite_true, ite_false, reduceIte, Bool.not_true, Bool.not_false, Bool.or_true, Bool.true_or, Bool.false_or, Bool.or_false, List.getElem?_cons_zero, List.getElem?_cons_succ, spots, i1, i2]⟩
  | 5, _ =>
    have i1 : isD (.int 24) (.bl true) = some false := rfl
    have i2 : eqD (.int 24) (.int 24) = some true := rfl
    exact ⟨.int 24, rfl, by simp only [betB, Bool.and_eq_false_iff, decide_eq_false_iff_not]; omega, by simp only [runF, exSs, exS, evE, evEs, evO, evT, evR, evRs, bnd, onE, onN, F.bind, op2, rdV, rdVs, lfD, lf, bopD, cmpD, bltD, truD, dats, dats0, isScal, anyR, asg, asgs, endD, sets, noEx, isOwn, add_ii, sub_ii, lt_ii, gt_ii, le_ii, isD, Option.map_some, Option.map_none, Option.bind_some, Option.bind_none, Option.map, Option.bind, List.getD_cons_zero, List.getD_cons_succ, List.set_cons_zero, List.set_cons_succ, List.length_cons, List.length_nil, List.map_cons, List.map_nil, List.cons_append, List.nil_append, List.replicate, Nat.reduceAdd, Nat.reduceSub, Nat.reduceLT, Nat.reduceLeDiff, Nat.reduceBEq, Nat.beq, Nat.ble, if_true, if_false, ite_true, ite_false, reduceIte, Bool.not_true, Bool.not_false, Bool.or_true, Bool.true_or, Bool.false_or, Bool.or_false, List.getElem?_cons_zero, List.getElem?_cons_succ, spots, i1, i2, l1, g24]⟩
def sides : Nat → D
  | 0 => .str [110, 111, 110, 101] | 1 => .non | 2 => .bl true | 3 => .str [97, 108, 111, 110, 103] | _ => .tup [.str [116, 111, 107, 101, 110, 115]]
theorem sub_sides {r : Nat} (h : r < 5) : subD (.tup [.str [110, 111, 110, 101], .non, .bl true, .str [97, 108, 111, 110, 103], .tup [.str [116, 111, 107, 101, 110, 115]]]) (.int r) = some (sides r) := by
  match r, h with
  | 0, _ | 1, _ | 2, _ | 3, _ | 4, _ => rfl
theorem sides_bad {r : Nat} (h : r < 5) : (sides r).plain = true ∧ wordB (sides r) SIGHTSl = false := by
  match r, h with
  | 0, _ | 1, _ | 2, _ | 3, _ | 4, _ => exact ⟨rfl, rfl⟩
theorem beqs_len : ∀ (xs ys : List D), xs.length ≠ ys.length → D.beqs xs ys = false
  | [], [], h => absurd rfl h
  | [], y :: ys, _ => by rw [D.beqs] <;> simp
  | x :: xs, [], _ => by rw [D.beqs] <;> simp
  | x :: xs, y :: ys, h => by rw [D.beqs, beqs_len xs ys (fun z => h (by simp [z])), Bool.and_false]
theorem beq_tups {xs ys : List D} (h : xs.length ≠ ys.length) : D.beq (.tup xs) (.tup ys) = false := by rw [D.beq]; exact beqs_len xs ys h
theorem beq_lt (xs ys : List D) : D.beq (.lst xs) (.tup ys) = false := by rw [D.beq] <;> simp
theorem in_two (w : Way) {d : D} (hd : OddOk d) : ∃ b, isinD d (.tup [.tup ((parts w).take 5), .lst (parts w)]) = some b ∧ (wayB d = true → b = false) := by
  have h1 : D.shp 60 (.tup [.tup ((parts w).take 5), .lst (parts w)]) = true := shps_mem 59 fun x hx => by
    simp only [List.mem_cons, List.not_mem_nil, or_false] at hx
    rcases hx with rfl | rfl
    · exact shps_mem 58 fun d hd => (small_parts w d (List.mem_of_mem_take hd)).2
    · exact shps_mem 58 fun d hd => (small_parts w d hd).2
  refine ⟨inD d [.tup ((parts w).take 5), .lst (parts w)], ?_, fun hw => ?_⟩
  · show (if _ then _ else _) = _
    rw [if_neg (by simp [D.isFlat]), if_pos (by rw [hd.2, h1]; rfl)]
  · unfold wayB at hw
    split at hw
    · unfold inD
      rw [List.any_cons, List.any_cons, List.any_nil, beq_tups (by simp [parts]), beq_lt]
      rfl
    · cases hw
theorem law_run : (callF gc tab 1000 20 106 [.opq 0]).All fun r => r = .ok (.bl true) := by
  refine al_iff.mp ?_
  refine call_all b_law b_law.eq_1 (by simp only [List.map_cons, List.map_nil, Nat.reduceSub, List.replicate, List.cons_append, List.nil_append] <;> exact rfl) rfl ?_
  have hb := call_beg (gc := gc) (T := tab) (wn := 1000) (k := 18) (i := 20)
  refine st_nx (by simp only [runF, exSs, exS, evE, evEs, evO, evT, evR, evRs, bnd, onE, onN, F.bind, op2, rdV, rdVs, lfD, lf, bopD, cmpD, bltD, truD, dats, dats0, isScal, anyR, asg, asgs, endD, sets, noEx, isOwn, add_ii, sub_ii, lt_ii, gt_ii, le_ii, isD, Option.map_some, Option.map_none, Option.bind_some, Option.bind_none, Option.map, Option.bind, List.getD_cons_zero, List.getD_cons_succ, List.set_cons_zero, List.set_cons_succ, List.length_cons, List.length_nil, List.map_cons, List.map_nil, List.cons_append, List.nil_append, List.replicate, Nat.reduceAdd, Nat.reduceSub, Nat.reduceLT, Nat.reduceLeDiff, Nat.reduceBEq, Nat.beq, Nat.ble, if_true, if_false, ite_true, ite_false, reduceIte, Bool.not_true, Bool.not_false, Bool.or_true, Bool.true_or, Bool.false_or, Bool.or_false, List.getElem?_cons_zero, List.getElem?_cons_succ, hb] <;> exact rfl) ?_
  refine st_all (Q := fun r => ∃ x2 x3 x4 x5 x6 x7 x8 x9 h, r = .nx [vd (.opq 0), vd (.opq 1), x2, x3, x4, x5, x6, x7, x8, x9] h) ?_ ?_
  · rw [ex_turns (z := 8) 8 rfl (by decide)]
    refine for_al (R := fun e h => ∃ x2 x3 x4 x5 x6 x7 x8 x9, e = [vd (.opq 0), vd (.opq 1), x2, x3, x4, x5, x6, x7, x8, x9]) ?_ ?_ ⟨none, none, none, none, none, none, none, none, rfl⟩
    · rintro d0 hd0 e h ⟨x2, x3, x4, x5, x6, x7, x8, x9, rfl⟩
      refine ⟨_, rfl, ?_⟩
      rw [s_law_0]
      refine st_all (a_drawn (k := 17) (m := 24) rfl (by decide) (by simp) (by simp)) ?_
      rintro _ ⟨w, s, hw, hs, hl, rfl⟩
      have r1 := a_odd (k := 17) w
      have r2 := a_bad (k := 17)
      refine st_all (Q := fun r => ∃ d i, OddOk d ∧ i < 12 ∧ r = .nx [vd (.opq 0), vd (.opq 1), vd d0, x3, x4, x5, vd w.d, vs s, vd d, vd (bads i)] h) ?_ ?_
      · simp only [runF, exSs, exS, evE, evEs, evO, evT, evR, evRs, bnd, onE, onN, F.bind, op2, rdV, rdVs, lfD, lf, bopD, cmpD, bltD, truD, dats, dats0, isScal, anyR, asg, asgs, endD, sets, noEx, isOwn, add_ii, sub_ii, lt_ii, gt_ii, le_ii, isD, Option.map_some, Option.map_none, Option.bind_some, Option.bind_none, Option.map, Option.bind, List.getD_cons_zero, List.getD_cons_succ, List.set_cons_zero, List.set_cons_succ, List.length_cons, List.length_nil, List.map_cons, List.map_nil, List.cons_append, List.nil_append, List.replicate, Nat.reduceAdd, Nat.reduceSub, Nat.reduceLT, Nat.reduceLeDiff, Nat.reduceBEq, Nat.beq, Nat.ble, if_true, if_false, ite_true, ite_false, reduceIte, Bool.not_true, Bool.not_false, Bool.or_true, Bool.true_or, Bool.false_or, Bool.or_false, List.getElem?_cons_zero, List.getElem?_cons_succ, Al_bind]
        refine al_imp r1 ?_
        rintro _ ⟨d, hd, rfl⟩
        simp only [runF, exSs, exS, evE, evEs, evO, evT, evR, evRs, bnd, onE, onN, F.bind, op2, rdV, rdVs, lfD, lf, bopD, cmpD, bltD, truD, dats, dats0, isScal, anyR, asg, asgs, endD, sets, noEx, isOwn, add_ii, sub_ii, lt_ii, gt_ii, le_ii, isD, Option.map_some, Option.map_none, Option.bind_some, Option.bind_none, Option.map, Option.bind, List.getD_cons_zero, List.getD_cons_succ, List.set_cons_zero, List.set_cons_succ, List.length_cons, List.length_nil, List.map_cons, List.map_nil, List.cons_append, List.nil_append, List.replicate, Nat.reduceAdd, Nat.reduceSub, Nat.reduceLT, Nat.reduceLeDiff, Nat.reduceBEq, Nat.beq, Nat.ble, if_true, if_false, ite_true, ite_false, reduceIte, Bool.not_true, Bool.not_false, Bool.or_true, Bool.true_or, Bool.false_or, Bool.or_false, List.getElem?_cons_zero, List.getElem?_cons_succ, Al_bind, Al_ret]
        refine al_imp r2 ?_
        rintro _ ⟨i, hi, rfl⟩
        simp only [runF, exSs, exS, evE, evEs, evO, evT, evR, evRs, bnd, onE, onN, F.bind, op2, rdV, rdVs, lfD, lf, bopD, cmpD, bltD, truD, dats, dats0, isScal, anyR, asg, asgs, endD, sets, noEx, isOwn, add_ii, sub_ii, lt_ii, gt_ii, le_ii, isD, Option.map_some, Option.map_none, Option.bind_some, Option.bind_none, Option.map, Option.bind, List.getD_cons_zero, List.getD_cons_succ, List.set_cons_zero, List.set_cons_succ, List.length_cons, List.length_nil, List.map_cons, List.map_nil, List.cons_append, List.nil_append, List.replicate, Nat.reduceAdd, Nat.reduceSub, Nat.reduceLT, Nat.reduceLeDiff, Nat.reduceBEq, Nat.beq, Nat.ble, if_true, if_false, ite_true, ite_false, reduceIte, Bool.not_true, Bool.not_false, Bool.or_true, Bool.true_or, Bool.false_or, Bool.or_false, List.getElem?_cons_zero, List.getElem?_cons_succ, Al_bind, Al_ret]
        exact ⟨d, i, hd, hi, rfl⟩
      rintro _ ⟨d, i, hd, hi, rfl⟩
      have w1 := c_is_way (gc := gc) (T := tab) (wn := 1000) (k := 17) hw
      have l1 := c_lis (k := 18) true true
      have l2 := c_lis (k := 18) false false
      have tt : (true == true) = true := rfl
      have ff : (false == false) = true := rfl
      rw [tt] at l1
      rw [ff] at l2
      refine st_nx (by simp only [runF, exSs, exS, evE, evEs, evO, evT, evR, evRs, bnd, onE, onN, F.bind, op2, rdV, rdVs, lfD, lf, bopD, cmpD, bltD, truD, dats, dats0, isScal, anyR, asg, asgs, endD, sets, noEx, isOwn, add_ii, sub_ii, lt_ii, gt_ii, le_ii, isD, Option.map_some, Option.map_none, Option.bind_some, Option.bind_none, Option.map, Option.bind, List.getD_cons_zero, List.getD_cons_succ, List.set_cons_zero, List.set_cons_succ, List.length_cons, List.length_nil, List.map_cons, List.map_nil, List.cons_append, List.nil_append, List.replicate, Nat.reduceAdd, Nat.reduceSub, Nat.reduceLT, Nat.reduceLeDiff, Nat.reduceBEq, Nat.beq, Nat.ble, if_true, if_false, ite_true, ite_false, reduceIte, Bool.not_true, Bool.not_false, Bool.or_true, Bool.true_or, Bool.false_or, Bool.or_false, List.getElem?_cons_zero, List.getElem?_cons_succ, w1, l1] <;> exact rfl) ?_
      have t1 := c_is_text (gc := gc) (T := tab) (wn := 1000) (k := 18) hs hl
      refine st_nx (by simp only [runF, exSs, exS, evE, evEs, evO, evT, evR, evRs, bnd, onE, onN, F.bind, op2, rdV, rdVs, lfD, lf, bopD, cmpD, bltD, truD, dats, dats0, isScal, anyR, asg, asgs, endD, sets, noEx, isOwn, add_ii, sub_ii, lt_ii, gt_ii, le_ii, isD, Option.map_some, Option.map_none, Option.bind_some, Option.bind_none, Option.map, Option.bind, List.getD_cons_zero, List.getD_cons_succ, List.set_cons_zero, List.set_cons_succ, List.length_cons, List.length_nil, List.map_cons, List.map_nil, List.cons_append, List.nil_append, List.replicate, Nat.reduceAdd, Nat.reduceSub, Nat.reduceLT, Nat.reduceLeDiff, Nat.reduceBEq, Nat.beq, Nat.ble, if_true, if_false, ite_true, ite_false, reduceIte, Bool.not_true, Bool.not_false, Bool.or_true, Bool.true_or, Bool.false_or, Bool.or_false, List.getElem?_cons_zero, List.getElem?_cons_succ, t1, l1] <;> exact rfl) ?_
      have t2 := retB_ok (bads_19 i hi)
      refine st_nx (by simp only [runF, exSs, exS, evE, evEs, evO, evT, evR, evRs, bnd, onE, onN, F.bind, op2, rdV, rdVs, lfD, lf, bopD, cmpD, bltD, truD, dats, dats0, isScal, anyR, asg, asgs, endD, sets, noEx, isOwn, add_ii, sub_ii, lt_ii, gt_ii, le_ii, isD, Option.map_some, Option.map_none, Option.bind_some, Option.bind_none, Option.map, Option.bind, List.getD_cons_zero, List.getD_cons_succ, List.set_cons_zero, List.set_cons_succ, List.length_cons, List.length_nil, List.map_cons, List.map_nil, List.cons_append, List.nil_append, List.replicate, Nat.reduceAdd, Nat.reduceSub, Nat.reduceLT, Nat.reduceLeDiff, Nat.reduceBEq, Nat.beq, Nat.ble, if_true, if_false, ite_true, ite_false, reduceIte, Bool.not_true, Bool.not_false, Bool.or_true, Bool.true_or, Bool.false_or, Bool.or_false, List.getElem?_cons_zero, List.getElem?_cons_succ, t2, l2] <;> exact rfl) ?_
      have g1 := c_wayG (gc := gc) (T := tab) (wn := 1000) (k := 17) d hd.1
      refine st_nx (by simp only [runF, exSs, exS, evE, evEs, evO, evT, evR, evRs, bnd, onE, onN, F.bind, op2, rdV, rdVs, lfD, lf, bopD, cmpD, bltD, truD, dats, dats0, isScal, anyR, asg, asgs, endD, sets, noEx, isOwn, add_ii, sub_ii, lt_ii, gt_ii, le_ii, isD, Option.map_some, Option.map_none, Option.bind_some, Option.bind_none, Option.map, Option.bind, List.getD_cons_zero, List.getD_cons_succ, List.set_cons_zero, List.set_cons_succ, List.length_cons, List.length_nil, List.map_cons, List.map_nil, List.cons_append, List.nil_append, List.replicate, Nat.reduceAdd, Nat.reduceSub, Nat.reduceLT, Nat.reduceLeDiff, Nat.reduceBEq, Nat.beq, Nat.ble, if_true, if_false, ite_true, ite_false, reduceIte, Bool.not_true, Bool.not_false, Bool.or_true, Bool.true_or, Bool.false_or, Bool.or_false, List.getElem?_cons_zero, List.getElem?_cons_succ, g1] <;> exact rfl) ?_
      obtain ⟨b, i1, i2⟩ := in_two w hd
      have p1 : slcD w.d none (some (-1)) = some (.tup ((parts w).take 5)) := rfl
      have p3 : listD [w.d] = some (.lst (parts w)) := rfl
      have s7 : ∀ c, (c = true → b = false) → (b && c) = false := fun c hc => by cases c <;> cases b <;> simp_all
      refine st_nx (e1 := [vd (.opq 0), vd (.opq 1), vd d0, vd (.bl (wayB d)), x4, x5, vd w.d, vs s, vd d, vd (bads i)]) (h1 := h) (by
        cases hq : b with
        | false => rw [hq] at i1; simp only [runF, exSs, exS, evE, evEs, evO, evT, evR, evRs, bnd, onE, onN, F.bind, op2, rdV, rdVs, lfD, lf, bopD, cmpD, bltD, truD, dats, dats0, isScal, anyR, asg, asgs, endD, sets, noEx, isOwn, add_ii, sub_ii, lt_ii, gt_ii, le_ii, isD, Option.map_some, Option.map_none, Option.bind_some, Option.bind_none, Option.map, Option.bind, List.getD_cons_zero, List.getD_cons_succ, List.set_cons_zero, List.set_cons_succ, List.length_cons, List.length_nil, List.map_cons, List.map_nil, List.cons_append, List.nil_append, List.replicate, Nat.reduceAdd, Nat.reduceSub, Nat.reduceLT, Nat.reduceLeDiff, Nat.reduceBEq, Nat.beq, Nat.ble, if_true, if_false, ite_true, ite_false, reduceIte, Bool.not_true, Bool.not_false, Bool.or_true, Bool.true_or, Bool.false_or, Bool.or_false, List.getElem?_cons_zero, List.getElem?_cons_succ, p1, p3, i1]
        | true =>
          rw [hq] at i1 i2
          have : wayB d = false := by
            cases hz : wayB d with
            | false => rfl
            | true => cases i2 hz
          simp only [runF, exSs, exS, evE, evEs, evO, evT, evR, evRs, bnd, onE, onN, F.bind, op2, rdV, rdVs, lfD, lf, bopD, cmpD, bltD, truD, dats, dats0, isScal, anyR, asg, asgs, endD, sets, noEx, isOwn, add_ii, sub_ii, lt_ii, gt_ii, le_ii, isD, Option.map_some, Option.map_none, Option.bind_some, Option.bind_none, Option.map, Option.bind, List.getD_cons_zero, List.getD_cons_succ, List.set_cons_zero, List.set_cons_succ, List.length_cons, List.length_nil, List.map_cons, List.map_nil, List.cons_append, List.nil_append, List.replicate, Nat.reduceAdd, Nat.reduceSub, Nat.reduceLT, Nat.reduceLeDiff, Nat.reduceBEq, Nat.beq, Nat.ble, if_true, if_false, ite_true, ite_false, reduceIte, Bool.not_true, Bool.not_false, Bool.or_true, Bool.true_or, Bool.false_or, Bool.or_false, List.getElem?_cons_zero, List.getElem?_cons_succ, p1, p3, i1, this]) ?_
      refine st_nx (e1 := [vd (.opq 0), vd (.opq 1), vd d0, vd (.bl (wayB d)), x4, x5, vd w.d, vs s, vd d, vd (bads i)]) (h1 := h) (by
        cases hz : wayB d with
        | true => simp only [runF, exSs, exS, evE, evEs, evO, evT, evR, evRs, bnd, onE, onN, F.bind, op2, rdV, rdVs, lfD, lf, bopD, cmpD, bltD, truD, dats, dats0, isScal, anyR, asg, asgs, endD, sets, noEx, isOwn, add_ii, sub_ii, lt_ii, gt_ii, le_ii, isD, Option.map_some, Option.map_none, Option.bind_some, Option.bind_none, Option.map, Option.bind, List.getD_cons_zero, List.getD_cons_succ, List.set_cons_zero, List.set_cons_succ, List.length_cons, List.length_nil, List.map_cons, List.map_nil, List.cons_append, List.nil_append, List.replicate, Nat.reduceAdd, Nat.reduceSub, Nat.reduceLT, Nat.reduceLeDiff, Nat.reduceBEq, Nat.beq, Nat.ble, if_true, if_false, ite_true, ite_false, reduceIte, Bool.not_true, Bool.not_false, Bool.or_true, Bool.true_or, Bool.false_or, Bool.or_false, List.getElem?_cons_zero, List.getElem?_cons_succ]
        | false => simp only [runF, exSs, exS, evE, evEs, evO, evT, evR, evRs, bnd, onE, onN, F.bind, op2, rdV, rdVs, lfD, lf, bopD, cmpD, bltD, truD, dats, dats0, isScal, anyR, asg, asgs, endD, sets, noEx, isOwn, add_ii, sub_ii, lt_ii, gt_ii, le_ii, isD, Option.map_some, Option.map_none, Option.bind_some, Option.bind_none, Option.map, Option.bind, List.getD_cons_zero, List.getD_cons_succ, List.set_cons_zero, List.set_cons_succ, List.length_cons, List.length_nil, List.map_cons, List.map_nil, List.cons_append, List.nil_append, List.replicate, Nat.reduceAdd, Nat.reduceSub, Nat.reduceLT, Nat.reduceLeDiff, Nat.reduceBEq, Nat.beq, Nat.ble, if_true, if_false, ite_true, ite_false, reduceIte, Bool.not_true, Bool.not_false, Bool.or_true, Bool.true_or, Bool.false_or, Bool.or_false, List.getElem?_cons_zero, List.getElem?_cons_succ, c_orders hw hd hz hi hs hl]) ?_
      have l0 := len_str (s := s) (by omega)
      have d6 := call_drw (gc := gc) (T := tab) (wn := 1000) (k := 18) (i := 19) 6 (by decide)
      refine st_all (Q := fun r => ∃ j, j < 6 ∧ r = .nx [vd (.opq 0), vd (.opq 1), vd d0, vd (.bl (wayB d)), vd (spots s.length j), x5, vd w.d, vs s, vd d, vd (bads i)] h) ?_ ?_
      · simp only [runF, exSs, exS, evE, evEs, evO, evT, evR, evRs, bnd, onE, onN, F.bind, op2, rdV, rdVs, lfD, lf, bopD, cmpD, bltD, truD, dats, dats0, isScal, anyR, asg, asgs, endD, sets, noEx, isOwn, add_ii, sub_ii, lt_ii, gt_ii, le_ii, isD, Option.map_some, Option.map_none, Option.bind_some, Option.bind_none, Option.map, Option.bind, List.getD_cons_zero, List.getD_cons_succ, List.set_cons_zero, List.set_cons_succ, List.length_cons, List.length_nil, List.map_cons, List.map_nil, List.cons_append, List.nil_append, List.replicate, Nat.reduceAdd, Nat.reduceSub, Nat.reduceLT, Nat.reduceLeDiff, Nat.reduceBEq, Nat.beq, Nat.ble, if_true, if_false, ite_true, ite_false, reduceIte, Bool.not_true, Bool.not_false, Bool.or_true, Bool.true_or, Bool.false_or, Bool.or_false, List.getElem?_cons_zero, List.getElem?_cons_succ, l0, d6, bind_draw, Al_draw]
        intro r hr
        have hr : r < 6 := hr
        simp only [runF, exSs, exS, evE, evEs, evO, evT, evR, evRs, bnd, onE, onN, F.bind, op2, rdV, rdVs, lfD, lf, bopD, cmpD, bltD, truD, dats, dats0, isScal, anyR, asg, asgs, endD, sets, noEx, isOwn, add_ii, sub_ii, lt_ii, gt_ii, le_ii, isD, Option.map_some, Option.map_none, Option.bind_some, Option.bind_none, Option.map, Option.bind, List.getD_cons_zero, List.getD_cons_succ, List.set_cons_zero, List.set_cons_succ, List.length_cons, List.length_nil, List.map_cons, List.map_nil, List.cons_append, List.nil_append, List.replicate, Nat.reduceAdd, Nat.reduceSub, Nat.reduceLT, Nat.reduceLeDiff, Nat.reduceBEq, Nat.beq, Nat.ble, if_true, if_false, ite_true, ite_false, reduceIte, Bool.not_true, Bool.not_false, Bool.or_true, Bool.true_or, Bool.false_or, Bool.or_false, List.getElem?_cons_zero, List.getElem?_cons_succ, sub_spots s.length hr, Al_ret]
        exact ⟨r, hr, rfl⟩
      rintro _ ⟨j, hj, rfl⟩
      obtain ⟨p, hp, hbt, q1⟩ := spot_step (cl := callF gc tab 1000 19) hl hj (vd (.opq 0)) (vd (.opq 1)) (vd d0) (vd (.bl (wayB d))) x5 (vd w.d) (vd d) (vd (bads i)) h
      refine st_nx q1 ?_
      have z1 := z_copies (gc := gc) (T := tab) (wn := 1000) (k := 15) hw hs hl hp hbt
      have z2 := z_best (gc := gc) (T := tab) (wn := 1000) (k := 15) hw hs hl hp hbt
      have e1 : eqD (.tup [.str [115, 112, 111, 116]]) (.tup [.str [115, 112, 111, 116]]) = some true := rfl
      refine st_nx (by simp only [runF, exSs, exS, evE, evEs, evO, evT, evR, evRs, bnd, onE, onN, F.bind, op2, rdV, rdVs, lfD, lf, bopD, cmpD, bltD, truD, dats, dats0, isScal, anyR, asg, asgs, endD, sets, noEx, isOwn, add_ii, sub_ii, lt_ii, gt_ii, le_ii, isD, Option.map_some, Option.map_none, Option.bind_some, Option.bind_none, Option.map, Option.bind, List.getD_cons_zero, List.getD_cons_succ, List.set_cons_zero, List.set_cons_succ, List.length_cons, List.length_nil, List.map_cons, List.map_nil, List.cons_append, List.nil_append, List.replicate, Nat.reduceAdd, Nat.reduceSub, Nat.reduceLT, Nat.reduceLeDiff, Nat.reduceBEq, Nat.beq, Nat.ble, if_true, if_false, ite_true, ite_false, reduceIte, Bool.not_true, Bool.not_false, Bool.or_true, Bool.true_or, Bool.false_or, Bool.or_false, List.getElem?_cons_zero, List.getElem?_cons_succ, z1, exNm, e1] <;> exact rfl) ?_
      refine st_nx (by simp only [runF, exSs, exS, evE, evEs, evO, evT, evR, evRs, bnd, onE, onN, F.bind, op2, rdV, rdVs, lfD, lf, bopD, cmpD, bltD, truD, dats, dats0, isScal, anyR, asg, asgs, endD, sets, noEx, isOwn, add_ii, sub_ii, lt_ii, gt_ii, le_ii, isD, Option.map_some, Option.map_none, Option.bind_some, Option.bind_none, Option.map, Option.bind, List.getD_cons_zero, List.getD_cons_succ, List.set_cons_zero, List.set_cons_succ, List.length_cons, List.length_nil, List.map_cons, List.map_nil, List.cons_append, List.nil_append, List.replicate, Nat.reduceAdd, Nat.reduceSub, Nat.reduceLT, Nat.reduceLeDiff, Nat.reduceBEq, Nat.beq, Nat.ble, if_true, if_false, ite_true, ite_false, reduceIte, Bool.not_true, Bool.not_false, Bool.or_true, Bool.true_or, Bool.false_or, Bool.or_false, List.getElem?_cons_zero, List.getElem?_cons_succ, z2, exNm, e1] <;> exact rfl) ?_
      have d5 := call_drw (gc := gc) (T := tab) (wn := 1000) (k := 18) (i := 19) 5 (by decide)
      refine st_all (Q := fun r => ∃ j, j < 5 ∧ r = .nx [vd (.opq 0), vd (.opq 1), vd d0, vd (.bl (wayB d)), vd p, vd (sides j), vd w.d, vs s, vd d, vd (bads i)] h) ?_ ?_
      · simp only [runF, exSs, exS, evE, evEs, evO, evT, evR, evRs, bnd, onE, onN, F.bind, op2, rdV, rdVs, lfD, lf, bopD, cmpD, bltD, truD, dats, dats0, isScal, anyR, asg, asgs, endD, sets, noEx, isOwn, add_ii, sub_ii, lt_ii, gt_ii, le_ii, isD, Option.map_some, Option.map_none, Option.bind_some, Option.bind_none, Option.map, Option.bind, List.getD_cons_zero, List.getD_cons_succ, List.set_cons_zero, List.set_cons_succ, List.length_cons, List.length_nil, List.map_cons, List.map_nil, List.cons_append, List.nil_append, List.replicate, Nat.reduceAdd, Nat.reduceSub, Nat.reduceLT, Nat.reduceLeDiff, Nat.reduceBEq, Nat.beq, Nat.ble, if_true, if_false, ite_true, ite_false, reduceIte, Bool.not_true, Bool.not_false, Bool.or_true, Bool.true_or, Bool.false_or, Bool.or_false, List.getElem?_cons_zero, List.getElem?_cons_succ, d5, bind_draw, Al_draw]
        intro r hr
        have hr : r < 5 := hr
        simp only [runF, exSs, exS, evE, evEs, evO, evT, evR, evRs, bnd, onE, onN, F.bind, op2, rdV, rdVs, lfD, lf, bopD, cmpD, bltD, truD, dats, dats0, isScal, anyR, asg, asgs, endD, sets, noEx, isOwn, add_ii, sub_ii, lt_ii, gt_ii, le_ii, isD, Option.map_some, Option.map_none, Option.bind_some, Option.bind_none, Option.map, Option.bind, List.getD_cons_zero, List.getD_cons_succ, List.set_cons_zero, List.set_cons_succ, List.length_cons, List.length_nil, List.map_cons, List.map_nil, List.cons_append, List.nil_append, List.replicate, Nat.reduceAdd, Nat.reduceSub, Nat.reduceLT, Nat.reduceLeDiff, Nat.reduceBEq, Nat.beq, Nat.ble, if_true, if_false, ite_true, ite_false, reduceIte, Bool.not_true, Bool.not_false, Bool.or_true, Bool.true_or, Bool.false_or, Bool.or_false, List.getElem?_cons_zero, List.getElem?_cons_succ, sub_sides hr, Al_ret]
        exact ⟨r, hr, rfl⟩
      rintro _ ⟨j2, hj2, rfl⟩
      obtain ⟨v1, v2⟩ := sides_bad hj2
      have z3 := z_see (gc := gc) (T := tab) (wn := 1000) (k := 15) hw hs hl v1 v2
      have e2 : eqD (.tup [.str [115, 105, 100, 101]]) (.tup [.str [115, 105, 100, 101]]) = some true := rfl
      refine st_one (by simp only [runF, exSs, exS, evE, evEs, evO, evT, evR, evRs, bnd, onE, onN, F.bind, op2, rdV, rdVs, lfD, lf, bopD, cmpD, bltD, truD, dats, dats0, isScal, anyR, asg, asgs, endD, sets, noEx, isOwn, add_ii, sub_ii, lt_ii, gt_ii, le_ii, isD, Option.map_some, Option.map_none, Option.bind_some, Option.bind_none, Option.map, Option.bind, List.getD_cons_zero, List.getD_cons_succ, List.set_cons_zero, List.set_cons_succ, List.length_cons, List.length_nil, List.map_cons, List.map_nil, List.cons_append, List.nil_append, List.replicate, Nat.reduceAdd, Nat.reduceSub, Nat.reduceLT, Nat.reduceLeDiff, Nat.reduceBEq, Nat.beq, Nat.ble, if_true, if_false, ite_true, ite_false, reduceIte, Bool.not_true, Bool.not_false, Bool.or_true, Bool.true_or, Bool.false_or, Bool.or_false, List.getElem?_cons_zero, List.getElem?_cons_succ, z3, exNm, e2] <;> exact rfl) ?_
      exact ⟨_, _, _, _, _, _, _, _, rfl⟩
    · rintro e h ⟨x2, x3, x4, x5, x6, x7, x8, x9, rfl⟩
      exact ⟨_, _, _, _, _, _, _, _, _, rfl⟩
  rintro _ ⟨x2, x3, x4, x5, x6, x7, x8, x9, h, rfl⟩
  have g1 : callF gc tab 1000 19 2 [.tup [.str [110, 111, 119], .int 4, .int 3, .int 4, .int 0, .str [102, 97, 114]]] = ok (.bl true) := c_wayG (gc := gc) (T := tab) (wn := 1000) (k := 17) _ rfl
  have g2 : callF gc tab 1000 19 2 [.tup [.str [110, 111, 119], .int 5, .int 2, .int 4, .int 0, .str [102, 97, 114]]] = ok (.bl false) := c_wayG (gc := gc) (T := tab) (wn := 1000) (k := 17) _ rfl
  have g3 : callF gc tab 1000 19 2 [.tup [.str [110, 101, 120, 116], .int 3, .int 3, .int 2, .int 1, .str [110, 101, 97, 114]]] = ok (.bl false) := c_wayG (gc := gc) (T := tab) (wn := 1000) (k := 17) _ rfl
  have g4 : callF gc tab 1000 19 2 [.tup [.str [110, 111, 119], .int 2, .int 1, .int 2, .int 1, .str [110, 101, 97, 114]]] = ok (.bl false) := c_wayG (gc := gc) (T := tab) (wn := 1000) (k := 17) _ rfl
  have g5 : callF gc tab 1000 19 2 [.tup [.str [110, 111, 119], .int 2, .int 2, .int 2, .bl true, .str [102, 97, 114]]] = ok (.bl false) := c_wayG (gc := gc) (T := tab) (wn := 1000) (k := 17) _ rfl
  refine st_nx (by simp only [runF, exSs, exS, evE, evEs, evO, evT, evR, evRs, bnd, onE, onN, F.bind, op2, rdV, rdVs, lfD, lf, bopD, cmpD, bltD, truD, dats, dats0, isScal, anyR, asg, asgs, endD, sets, noEx, isOwn, add_ii, sub_ii, lt_ii, gt_ii, le_ii, isD, Option.map_some, Option.map_none, Option.bind_some, Option.bind_none, Option.map, Option.bind, List.getD_cons_zero, List.getD_cons_succ, List.set_cons_zero, List.set_cons_succ, List.length_cons, List.length_nil, List.map_cons, List.map_nil, List.cons_append, List.nil_append, List.replicate, Nat.reduceAdd, Nat.reduceSub, Nat.reduceLT, Nat.reduceLeDiff, Nat.reduceBEq, Nat.beq, Nat.ble, if_true, if_false, ite_true, ite_false, reduceIte, Bool.not_true, Bool.not_false, Bool.or_true, Bool.true_or, Bool.false_or, Bool.or_false, List.getElem?_cons_zero, List.getElem?_cons_succ, g1, g2] <;> exact rfl) ?_
  refine st_nx (by simp only [runF, exSs, exS, evE, evEs, evO, evT, evR, evRs, bnd, onE, onN, F.bind, op2, rdV, rdVs, lfD, lf, bopD, cmpD, bltD, truD, dats, dats0, isScal, anyR, asg, asgs, endD, sets, noEx, isOwn, add_ii, sub_ii, lt_ii, gt_ii, le_ii, isD, Option.map_some, Option.map_none, Option.bind_some, Option.bind_none, Option.map, Option.bind, List.getD_cons_zero, List.getD_cons_succ, List.set_cons_zero, List.set_cons_succ, List.length_cons, List.length_nil, List.map_cons, List.map_nil, List.cons_append, List.nil_append, List.replicate, Nat.reduceAdd, Nat.reduceSub, Nat.reduceLT, Nat.reduceLeDiff, Nat.reduceBEq, Nat.beq, Nat.ble, if_true, if_false, ite_true, ite_false, reduceIte, Bool.not_true, Bool.not_false, Bool.or_true, Bool.true_or, Bool.false_or, Bool.or_false, List.getElem?_cons_zero, List.getElem?_cons_succ, g3, g4] <;> exact rfl) ?_
  refine st_rt (v := .d (.bl true)) (h1 := h) (by simp only [runF, exSs, exS, evE, evEs, evO, evT, evR, evRs, bnd, onE, onN, F.bind, op2, rdV, rdVs, lfD, lf, bopD, cmpD, bltD, truD, dats, dats0, isScal, anyR, asg, asgs, endD, sets, noEx, isOwn, add_ii, sub_ii, lt_ii, gt_ii, le_ii, isD, Option.map_some, Option.map_none, Option.bind_some, Option.bind_none, Option.map, Option.bind, List.getD_cons_zero, List.getD_cons_succ, List.set_cons_zero, List.set_cons_succ, List.length_cons, List.length_nil, List.map_cons, List.map_nil, List.cons_append, List.nil_append, List.replicate, Nat.reduceAdd, Nat.reduceSub, Nat.reduceLT, Nat.reduceLeDiff, Nat.reduceBEq, Nat.beq, Nat.ble, if_true, if_false, ite_true, ite_false, reduceIte, Bool.not_true, Bool.not_false, Bool.or_true, Bool.true_or, Bool.false_or, Bool.or_false, List.getElem?_cons_zero, List.getElem?_cons_succ, g5]) ?_
  exact al_ret rfl
end Bk
open PySem PySem.W PySem.Calls PyProof.Rows
theorem PySem.Challenge.cw_backcopies_k01_not_ways_holds : PySem.Challenge.rw_backcopies_k01_not_ways.Holds := by
  w_on; o_law
  refine HandSHeadRun.head_any (r := OpenLaw.row PySem.Challenge.rw_backcopies_k01_not_ways) (q := view (OpenLaw.row PySem.Challenge.rw_backcopies_k01_not_ways).prog [60]) (H := Bk.hk) (ob := Bk.ob) (M := 12000) (loose := Bk.loose) (d := HandSHeadRun.topDef (OpenLaw.row PySem.Challenge.rw_backcopies_k01_not_ways).prog 60) (kwd := []) Bk.ob_eq
    (by kernel_rfl) (fun s => by kernel_rfl) Bk.hRun (by kernel_rfl) (by kernel_rfl) (by kernel_rfl) (by rfl) (by first | assumption | decide +kernel) (by decide +kernel) ⟨rfl, rfl, rfl, rfl, rfl, by decide +kernel⟩ ?hw ?hc
  case hw => w_witness2
  case hc =>
    refine Bk.walk_ofTE (l := PySem.Challenge.rw_backcopies_k01_not_ways) (n := 63) (k := 60) (x := "script") (CX := Bk.CXs Bk.LP) rfl (by decide) (by kernel_rfl) ⟨rfl, by decide, by decide⟩ ?F (fun _ _ _ _ z => Bk.cxs_no z)
    intro w mg fa h Y Gh hmg0
    obtain ⟨K, KX, c⟩ := Y
    have hmg : mg ("law" : PySem.Str) = some (.ref fa) := by
      have e : (HandSHeadRun.topDef (OpenLaw.row PySem.Challenge.rw_backcopies_k01_not_ways).prog 60).name = ("law" : PySem.Str) := by kernel_rfl
      rw [← e]
      exact hmg0
    obtain ⟨fd, hb, hF⟩ := Bk.facts KX Gh c hmg
    exact ⟨K, fd, _, _, KX, fun p hp => (Bk.tabs0 KX c p hp).1, fun p hp => (Bk.tabs0 KX c p hp).2.1, fun p hp => (Bk.tabs0 KX c p hp).2.2, hb, fun H a ns hl ho hS => Bk.law_sp rfl Bk.law_run H a ns hl ho hS, fun base _ _ ht => hF base ht⟩
