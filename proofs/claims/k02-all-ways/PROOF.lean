import PyProof.Rows.All
import Wide.All
import OpenK.AllK
import Wide.FinOn
import KE.KDictKeyed
import KE.KDictDisplayH
import HandS.Iter
import HandS.Dict
import PyProof.Rows.TupTab
import HandS.ForMost
import HandS.ForExc
import HandS.IsInst
import HandS.TupAny
import HandS.TupMul
import HandS.Walk
import HandS.HeadEnd
import HandS.Lambda
import HandS.HeadHook4
import HandS.TupSets
import HandS.Deep
import HandS.TupLe
import HandS.ListItems
import KE.DataMinMax
import KE.GoesEnum
import KE.GoesMore
import HandS.Codes
import HandS.RaiseMore
import KE.KIntText
import HandS.Keys
import HandS.SetFor
import PyProof.WalksMore
import KE.KeyNested
import KE.SortData
import PyProof.SetRoads
import KE.KExcIs
import HandS.SetKeys
import HandS.HeadHook1
import HandS.OwnEq
import HandS.Zip
import HandS.Conv
import HandS.More
import KE.KDictSum
import KE.KDictCopyH
import KE.KDictPairs
import HandS.MakeKwOnly
import HandS.Style
import HandS.Defaults
import HandS.WordsExc
import HandS.LawCells
import HandS.Head0
import HandS.Head1
import HandS.Head2
import HandS.HeadHook2
import HandS.EndTab
import KE.KStateDown
import Lean
import HandS.HeadHook3
import PySem.Challenge.RW_backcopies_k02_all_ways
set_option Elab.async false
set_option autoImplicit false
set_option linter.all false
set_option maxRecDepth 100000
set_option maxHeartbeats 0
namespace Bk
inductive D where
  | non
  | bl (b : Bool)
  | int (i : Int)
  | str (s : List Nat)
  | tup (xs : List D)
  | lst (xs : List D)
  | opq (n : Nat)
  | obj (c : Nat) (fs : List D)
  | dct (kvs : List D)
deriving Inhabited
mutual
def D.same : D → D → Bool
  | .non, .non => true
  | .bl a, .bl b => a == b
  | .int i, .int j => i == j
  | .str x, .str y => x == y
  | .tup xs, .tup ys => D.sames xs ys
  | .lst xs, .lst ys => D.sames xs ys
  | .opq m, .opq n => m == n
  | .obj c xs, .obj d ys => c == d && D.sames xs ys
  | .dct xs, .dct ys => D.sames xs ys
  | _, _ => false
def D.sames : List D → List D → Bool
  | [], [] => true
  | x :: xs, y :: ys => D.same x y && D.sames xs ys
  | _, _ => false
end
mutual
theorem D.same_eq : ∀ {x y : D}, D.same x y = true → x = y
  | .non, y, h => by cases y <;> simp_all [D.same]
  | .bl a, y, h => by cases y <;> simp_all [D.same]
  | .int i, y, h => by cases y <;> simp_all [D.same]
  | .str s, y, h => by cases y <;> simp_all [D.same]
  | .tup xs, y, h => by
    cases y with
    | tup ys => simp only [D.same] at h; rw [D.sames_eq h]
    | _ => simp [D.same] at h
  | .lst xs, y, h => by
    cases y with
    | lst ys => simp only [D.same] at h; rw [D.sames_eq h]
    | _ => simp [D.same] at h
  | .opq n, y, h => by cases y <;> simp_all [D.same]
  | .obj c xs, y, h => by
    cases y with
    | obj d ys =>
      simp only [D.same, Bool.and_eq_true, beq_iff_eq] at h
      rw [h.1, D.sames_eq h.2]
    | _ => simp [D.same] at h
  | .dct xs, y, h => by
    cases y with
    | dct ys => simp only [D.same] at h; rw [D.sames_eq h]
    | _ => simp [D.same] at h
theorem D.sames_eq : ∀ {xs ys : List D}, D.sames xs ys = true → xs = ys
  | [], [], _ => rfl
  | [], _ :: _, h => by simp [D.sames] at h
  | _ :: _, [], h => by simp [D.sames] at h
  | x :: xs, y :: ys, h => by
    simp only [D.sames, Bool.and_eq_true] at h
    rw [D.same_eq h.1, D.sames_eq h.2]
end
mutual
theorem D.same_self : ∀ x : D, D.same x x = true
  | .non => rfl
  | .bl a => by simp [D.same]
  | .int i => by simp [D.same]
  | .str s => by simp [D.same]
  | .tup xs => by rw [D.same, D.sames_self]
  | .lst xs => by rw [D.same, D.sames_self]
  | .opq n => by simp [D.same]
  | .obj c xs => by rw [D.same, D.sames_self]; simp
  | .dct xs => by rw [D.same, D.sames_self]
theorem D.sames_self : ∀ xs : List D, D.sames xs xs = true
  | [] => rfl
  | x :: xs => by rw [D.sames, D.same_self x, D.sames_self xs]; rfl
end
class MF where
  f : Nat → D → D → Option D
  ix : Nat → D → D → Nat
  lt : ∀ j o k, ix j o k < 1000000
  inj : ∀ j o k k', (f j o k).isSome = true → (f j o k').isSome = true → ix j o k = ix j o k' → k = k'
inductive F (α : Type) where
  | ret (a : α)
  | draw (n : Nat) (k : Nat → F α)
  | stk
def F.bind {α β : Type} : F α → (α → F β) → F β
  | .ret a, f => f a
  | .draw n k, f => .draw n fun r => (k r).bind f
  | .stk, _ => .stk
def F.All {α : Type} (P : α → Prop) : F α → Prop
  | .ret a => P a
  | .draw n k => ∀ r, r < n → (k r).All P
  | .stk => False
theorem F.All_bind {α β : Type} {P : β → Prop} {f : α → F β} : ∀ {m : F α}, (m.bind f).All P ↔ m.All fun a => (f a).All P
  | .ret a => Iff.rfl
  | .draw n k => by
    show (∀ r, r < n → ((k r).bind f).All P) ↔ (∀ r, r < n → (k r).All fun a => (f a).All P)
    exact ⟨fun h r hr => F.All_bind.mp (h r hr), fun h r hr => F.All_bind.mpr (h r hr)⟩
  | .stk => Iff.rfl
theorem F.All.imp {α : Type} {P Q : α → Prop} (h : ∀ a, P a → Q a) : ∀ {m : F α}, m.All P → m.All Q
  | .ret a, q => h a q
  | .draw n k, q => fun r hr => F.All.imp h (q r hr)
  | .stk, q => q
theorem F.bind_assoc {α β γ : Type} {f : α → F β} {g : β → F γ} : ∀ {m : F α}, (m.bind f).bind g = m.bind fun a => (f a).bind g
  | .ret a => rfl
  | .draw n k => by
    show F.draw n (fun r => ((k r).bind f).bind g) = F.draw n fun r => (k r).bind fun a => (f a).bind g
    congr 1
    funext r
    exact F.bind_assoc
  | .stk => rfl
inductive Rx (α : Type) where
  | ok (a : α)
  | ex (c : Nat)
abbrev M (α : Type) := F (Rx α)
def bnd {α β : Type} (m : M α) (f : α → M β) : M β := m.bind fun r => match r with
  | .ok a => f a
  | .ex c => .ret (.ex c)
abbrev ok {α : Type} (a : α) : M α := .ret (.ok a)
inductive Vv where
  | d (x : D)
  | r (n : Nat)
inductive Ob where
  | lst (xs : List D)
  | ins (c : Nat) (fs : List Vv) (m : Nat)
  | dct (kvs : List D)
  | lsv (vs : List Vv)
  | gone
def Ob.live : Ob → Bool
  | .gone => false
  | _ => true
abbrev Hq := List Ob
abbrev En := List (Option Vv)
def rdF (h : Hq) : Vv → Option D
  | .d x => some x
  | .r n => match h[n]? with
    | some (.lst xs) => some (.lst xs)
    | _ => none
def rdFs (h : Hq) : List Vv → Option (List D)
  | [] => some []
  | v :: r => (rdF h v).bind fun d => (rdFs h r).map (d :: ·)
def cf : Nat → List Nat
  | 0 => [0, 1] | 1 => [0] | 2 => [2, 3, 4] | 3 => [0, 4, 5, 6, 7, 8]
  | _ => []
def cm : Nat → Nat
  | 0 => 2 | 1 => 1
  | _ => 0
def rdV (h : Hq) : Vv → Option D
  | .d x => some x
  | .r n => match h[n]? with
    | some (.lst xs) => some (.lst xs)
    | some (.ins c fs m) => match Nat.beq fs.length (cf c).length && Nat.beq m (cm c) with
      | true => (rdFs h fs).map (.obj c)
      | false => none
    | some (.dct kvs) => some (.dct kvs)
    | some (.lsv _) => none
    | some .gone => none
    | none => none
def keysD : List D → List D
  | k :: _ :: r => k :: keysD r
  | _ => []
def lookD (k : D) : List D → Option D
  | k' :: v :: r => match D.same k' k with
    | true => some v
    | false => lookD k r
  | _ => none
def putD (k v : D) : List D → List D
  | k' :: v' :: r => match D.same k' k with
    | true => k' :: v :: r
    | false => k' :: v' :: putD k v r
  | _ => [k, v]
def posL (f : Nat) : List Nat → Option Nat
  | [] => none
  | x :: r => match Nat.beq x f with
    | true => some 0
    | false => (posL f r).map (· + 1)
def fldL {α : Type} (c f : Nat) (fs : List α) : Option α := (posL f (cf c)).bind fun i => fs[i]?
def clsV (h : Hq) : Vv → Option Nat
  | .d (.obj c _) => some c
  | .d _ => none
  | .r n => match h[n]? with
    | some (.ins c _ _) => some c
    | _ => none
inductive Bop where | add | sub | mul | fdiv | mod | pow
inductive Cop where | eq | ne | lt | le | gt | ge | is | isn | isin | nin
inductive Blt where | len | min | max | sum | all | any | tuple | list | abs | str | int
inductive Ity where | int | bool | str | tuple | list
inductive Mth where | join | split | count
inductive Tg where
  | nm (i : Nat)
  | tp (ts : List Tg)
mutual
inductive Ex where
  | var (i : Nat)
  | cst (d : D)
  | glo (g : Nat)
  | tup (es : Exs)
  | lst (es : Exs)
  | bop (o : Bop) (a b : Ex)
  | neg (a : Ex)
  | cmp (o : Cop) (a b : Ex)
  | chn (o p : Cop) (a b c : Ex)
  | and (a b : Ex)
  | or (a b : Ex)
  | not (a : Ex)
  | ite (c : Tx) (a b : Ex)
  | sub (a i : Ex)
  | slc (a : Ex) (lo hi : Ox)
  | cal (f : Nat) (es : Exs)
  | cak (f : Nat) (es ks : Exs)
  | blt (b : Blt) (es : Exs)
  | mth (m : Mth) (o a : Ex)
  | isi (t : Ity) (a : Ex)
  | sst (a : Ex)
  | lns (a : Ex)
  | res (x : Ex)
  | dl3 (k1 k2 k3 : List Nat) (a b c i : Ex)
  | fld (a : Ex) (f : Nat)
  | cam (m : Nat) (fs : List (Nat × Nat)) (o : Ex) (es : Exs)
  | mak (f : Nat) (es : Exs)
  | oln (ms : List (Nat × Nat)) (o : Ex)
  | oeq (ng : Bool) (ms : List (Nat × Nat)) (a b : Ex)
  | iso (c : Nat) (a : Ex)
  | dgi (x k : Ex)
  | din (ng : Bool) (k x : Ex)
  | dgt (x k d : Ex)
  | srk (x : Ex)
  | lsk (x : Ex)
  | dcl (x : Ex)
  | cmp1 (elt : Ex) (tg : Tg) (it : Ix) (own : List Nat)
  | cmpc (elt : Ex) (tg : Tg) (it : Ix) (c : Tx) (own : List Nat)
inductive Exs where
  | nil
  | cons (e : Ex) (es : Exs)
inductive Ox where
  | no
  | so (e : Ex)
inductive Tx where
  | val (e : Ex)
  | and (a b : Tx)
  | or (a b : Tx)
  | not (a : Tx)
inductive Ix where
  | seq (e : Ex)
  | rg1 (a : Ex)
  | rg2 (a b : Ex)
  | rg3 (a b c : Ex)
  | own (i : Nat)
  | enm (e : Ex)
  | dky (e : Ex)
  | zip (a b : Ex)
end
abbrev lim : Nat := 10000000
abbrev dlim : Nat := 10000000
mutual
def D.beq : D → D → Bool
  | .non, .non => true
  | .bl a, .bl b => a == b
  | .bl a, .int j => (if a then 1 else 0) == j
  | .int i, .bl b => i == (if b then 1 else 0)
  | .int i, .int j => i == j
  | .str x, .str y => x == y
  | .lst xs, .lst ys => D.beqs xs ys
  | .tup xs, .tup ys => D.beqs xs ys
  | _, _ => false
def D.beqs : List D → List D → Bool
  | [], [] => true
  | x :: xs, y :: ys => D.beq x y && D.beqs xs ys
  | _, _ => false
end
def asc (s : List Nat) : Bool := s.all fun c => Nat.blt c 128
mutual
def D.shp : Nat → D → Bool
  | _, .non => true
  | _, .bl _ => true
  | _, .int _ => true
  | _, .str s => asc s
  | n + 1, .lst xs => D.shps n xs
  | n + 1, .tup xs => D.shps n xs
  | _, _ => false
def D.shps : Nat → List D → Bool
  | _, [] => true
  | n, x :: xs => D.shp n x && D.shps n xs
end
def allInt : List D → Option (List Int)
  | [] => some []
  | .int i :: r => (allInt r).map (i :: ·)
  | _ :: _ => none
def allBl : List D → Option (List Bool)
  | [] => some []
  | .bl i :: r => (allBl r).map (i :: ·)
  | _ :: _ => none
def allStr : List D → Option (List (List Nat))
  | [] => some []
  | .str i :: r => (allStr r).map (i :: ·)
  | _ :: _ => none
def minL : List Int → Option Int
  | [] => none
  | x :: r => some (r.foldl (fun a b => if b < a then b else a) x)
def maxL : List Int → Option Int
  | [] => none
  | x :: r => some (r.foldl (fun a b => if b > a then b else a) x)
def ltP (a b : Int × Int) : Bool := if a.1 = b.1 then decide (a.2 < b.2) else decide (a.1 < b.1)
def gtP (a b : Int × Int) : Bool := if a.1 = b.1 then decide (b.2 < a.2) else decide (b.1 < a.1)
def allP : List D → Option (List (Int × Int))
  | [] => some []
  | .tup [.int a, .int b] :: r => (allP r).map ((a, b) :: ·)
  | _ :: _ => none
def bestQ (f : Int × Int → Int × Int → Bool) : List (Int × Int) → Option D
  | [] => none
  | x :: r => match r.foldl (fun a b => if f b a = true then b else a) x with
    | (a, b) => some (.tup [.int a, .int b])
def sumL (xs : List Int) : Int := xs.foldr (· + ·) 0
def repD {α : Type} (n : Nat) (xs : List α) : List α := (List.replicate n xs).flatten
def addD : D → D → Option D
  | .int i, .int j => some (.int (i + j))
  | .str s, .str t => if s.length + t.length ≤ lim then some (.str (s ++ t)) else none
  | .tup s, .tup t => if s.length + t.length ≤ lim then some (.tup (s ++ t)) else none
  | .lst s, .lst t => if s.length + t.length ≤ lim then some (.lst (s ++ t)) else none
  | _, _ => none
def subiD : D → D → Option D
  | .int i, .int j => some (.int (i - j))
  | _, _ => none
def mulD : D → D → Option D
  | .int i, .int j => if i.natAbs < 1000000000 then some (.int (i * j)) else none
  | .str s, .int k => if 0 ≤ k ∧ k ≤ 1000 ∧ s.length ≤ 1000 then some (.str (repD k.toNat s)) else none
  | .tup s, .int k => if 2 ≤ k ∧ k ≤ 1000 ∧ s.length ≤ 1000 ∧ s.isEmpty = false then some (.tup (repD k.toNat s)) else none
  | .lst s, .int k => if 0 ≤ k ∧ k ≤ 1000 ∧ s.length ≤ 1000 then some (.lst (repD k.toNat s)) else none
  | _, _ => none
def fdivD : D → D → Option D
  | .int i, .int j => if 0 < j ∧ j < 1000000000 then some (.int (i / j)) else none
  | _, _ => none
def modD : D → D → Option D
  | .int i, .int j => if 0 < j then some (.int (i % j)) else none
  | _, _ => none
def powD : D → D → Option D
  | .int i, .int j => if 0 ≤ j ∧ j ≤ 100 ∧ i.natAbs < 1000000000000 then some (.int (i ^ j.toNat)) else none
  | _, _ => none
def bopD : Bop → D → D → Option D
  | .add => addD
  | .sub => subiD
  | .mul => mulD
  | .fdiv => fdivD
  | .mod => modD
  | .pow => powD
def ltS : List Nat → List Nat → Bool
  | _, [] => false
  | [], _ :: _ => true
  | a :: r, b :: s => if a < b then true else if a == b then ltS r s else false
def D.isFlat : D → Bool
  | .non => true | .bl _ => true | .int _ => true | .str _ => true
  | _ => false
def inD (x : D) (xs : List D) : Bool := xs.any fun y => D.beq y x
def isD : D → D → Option Bool
  | .non, .non => some true
  | .bl _, .non => some false
  | .int _, .non => some false
  | .str _, .non => some false
  | .tup _, .non => some false
  | .lst _, .non => some false
  | .bl a, .bl b => some (a == b)
  | .non, .bl _ => some false
  | .int _, .bl _ => some false
  | .str _, .bl _ => some false
  | _, _ => none
def eqD (x y : D) : Option Bool := if (D.shp 60 x && D.shp 60 y) = true then some (D.beq x y) else none
def ltD : D → D → Option Bool
  | .int i, .int j => some (decide (i < j))
  | .str s, .str t => some (ltS s t)
  | _, _ => none
def gtD : D → D → Option Bool
  | .int i, .int j => some (decide (j < i))
  | .str s, .str t => some (ltS t s)
  | _, _ => none
def leD : D → D → Option Bool
  | .int i, .int j => some (decide (i ≤ j))
  | _, _ => none
def isinD : D → D → Option Bool
  | x, .tup ys => if (x.isFlat && ys.all D.isFlat) = true then some (inD x ys) else if (D.shp 60 x && D.shp 60 (.tup ys)) = true then some (inD x ys) else none
  | x, .lst ys => if (x.isFlat && ys.all D.isFlat) = true then some (inD x ys) else if (D.shp 60 x && D.shp 60 (.lst ys)) = true then some (inD x ys) else none
  | .str [c], .str t => some (t.any (· == c))
  | _, _ => none
def cmpD : Cop → D → D → Option Bool
  | .eq, x, y => eqD x y
  | .ne, x, y => (eqD x y).map (!·)
  | .lt, x, y => ltD x y
  | .le, x, y => leD x y
  | .gt, x, y => gtD x y
  | .ge, x, y => leD y x
  | .is, x, y => isD x y
  | .isn, x, y => (isD x y).map (!·)
  | .isin, x, y => isinD x y
  | .nin, x, y => (isinD x y).map (!·)
def ixD (n : Nat) (i : Int) : Option Nat := if 0 ≤ i then (if i < n then some i.toNat else none) else if -(n : Int) ≤ i then some (i + n).toNat else none
def atD {α : Type} (xs : List α) (i : Int) : Option α := (ixD xs.length i).bind fun j => xs[j]?
def subD : D → D → Option D
  | .tup xs, .int i => atD xs i
  | .lst xs, .int i => atD xs i
  | .str s, .int i => if s.length ≤ lim then (atD s i).map fun c => .str [c] else none
  | _, _ => none
def sIxD (n d : Nat) : Option Int → Nat
  | none => d
  | some v => if v < 0 then (v + (n : Int)).toNat else Nat.min v.toNat n
def cutD {α : Type} (xs : List α) (lo hi : Option Int) : List α := (xs.drop (sIxD xs.length 0 lo)).take (sIxD xs.length xs.length hi - sIxD xs.length 0 lo)
def slcD : D → Option Int → Option Int → Option D
  | .tup xs, lo, hi => some (.tup (cutD xs lo hi))
  | .lst xs, lo, hi => some (.lst (cutD xs lo hi))
  | .str s, lo, hi => if s.length ≤ lim then some (.str (cutD s lo hi)) else none
  | _, _, _ => none
def digits : Nat → Option (List Nat)
  | 0 => some [48] | 1 => some [49] | 2 => some [50] | 3 => some [51] | 4 => some [52]
  | 5 => some [53] | 6 => some [54] | 7 => some [55] | 8 => some [56] | 9 => some [57]
  | _ => none
def lenD : List D → Option D
  | [.str s] => if s.length ≤ lim then some (.int s.length) else none
  | [.tup s] => some (.int s.length)
  | [.lst s] => some (.int s.length)
  | _ => none
def minS : List (List Nat) → Option (List Nat)
  | [] => none
  | x :: r => some (r.foldl (fun a b => if ltS b a = true then b else a) x)
def minD : List D → Option D
  | [.int i, .int j] => some (.int (if j < i then j else i))
  | [.str s, .str t] => some (.str (if ltS t s = true then t else s))
  | [.lst xs] => match allInt xs with
    | some is => (minL is).map .int
    | none => match allStr xs with
      | some ss => (minS ss).map .str
      | none => (allP xs).bind (bestQ ltP)
  | _ => none
def maxD : List D → Option D
  | [.int i, .int j] => some (.int (if j > i then j else i))
  | [.lst xs] => match allInt xs with
    | some is => (maxL is).map .int
    | none => (allP xs).bind (bestQ gtP)
  | _ => none
def sumD : List D → Option D
  | [.lst xs] => (allInt xs).map fun is => .int (sumL is)
  | [.tup xs] => (allInt xs).map fun is => .int (sumL is)
  | _ => none
def allD : List D → Option D
  | [.lst xs] => (allBl xs).map fun bs => .bl (bs.all id)
  | _ => none
def anyD : List D → Option D
  | [.lst xs] => (allBl xs).map fun bs => .bl (bs.any id)
  | _ => none
def tupleD : List D → Option D
  | [.lst xs] => some (.tup xs)
  | [.tup xs] => some (.tup xs)
  | _ => none
def listD : List D → Option D
  | [.lst xs] => some (.lst xs)
  | [.tup xs] => some (.lst xs)
  | _ => none
def absD : List D → Option D
  | [.int i] => some (.int (if i < 0 then -i else i))
  | _ => none
def insQ (p : Int × Int) : List (Int × Int) → List (Int × Int)
  | [] => [p]
  | q :: r => if ltP p q = true then p :: q :: r else if p = q then q :: r else q :: insQ p r
def sortQ : List (Int × Int) → List (Int × Int)
  | [] => []
  | p :: l => insQ p (sortQ l)
def smallQ (p : Int × Int) : Bool := decide (0 ≤ p.1) && decide (p.1 < 1000) && decide (0 ≤ p.2) && decide (p.2 < 1000)
def pairD (p : Int × Int) : D := .tup [.int p.1, .int p.2]
def sstD : D → Option D
  | .lst xs => (allP xs).bind fun ps => if ps.length < 64 ∧ ps.all smallQ = true then some (.lst ((sortQ ps).map pairD)) else none
  | _ => none
def insJ (n : Int) : List Int → List Int
  | [] => [n]
  | m :: r => if n < m then n :: m :: r else if n = m then m :: r else m :: insJ n r
def sortJ : List Int → List Int
  | [] => []
  | n :: l => insJ n (sortJ l)
def smallI (n : Int) : Bool := decide (0 ≤ n) && decide (n < 60)
def sstI : D → Option D
  | .lst xs => (allInt xs).bind fun ns => if ns.length ≤ 4000 ∧ ns.all smallI = true then some (.lst ((sortJ ns).map .int)) else none
  | _ => none
def countD : D → D → Option D
  | .lst xs, .int k => (allInt xs).map fun ns => .int (ns.count k : Nat)
  | _, _ => none
def strD : List D → Option D
  | [.str s] => some (.str s)
  | [.int i] => if 0 ≤ i then (digits i.toNat).map .str else none
  | _ => none
def intD : List D → Option D
  | [.int i] => some (.int i)
  | [.str [48]] => some (.int 0) | [.str [49]] => some (.int 1) | [.str [50]] => some (.int 2) | [.str [51]] => some (.int 3) | [.str [52]] => some (.int 4)
  | _ => none
def bltD : Blt → List D → Option D
  | .len => lenD
  | .min => minD
  | .max => maxD
  | .sum => sumD
  | .all => allD
  | .any => anyD
  | .tuple => tupleD
  | .list => listD
  | .abs => absD
  | .str => strD
  | .int => intD
def joinS (sep : List Nat) : List (List Nat) → List Nat
  | [] => []
  | [x] => x
  | x :: r => x ++ sep ++ joinS sep r
def splS (c : Nat) : List Nat → List Nat → List (List Nat)
  | acc, [] => [acc]
  | acc, x :: r => if x = c then acc :: splS c [] r else splS c (acc ++ [x]) r
def splitD : D → D → Option D
  | .str s, .str [c] => if c < 128 ∧ s.length ≤ 1000 then some (.lst ((splS c [] s).map .str)) else none
  | _, _ => none
def joinD : D → D → Option D
  | .str s, .lst xs => (allStr xs).bind fun ss => if (ss.map List.length).sum + ss.length * s.length ≤ lim then some (.str (joinS s ss)) else none
  | _, _ => none
def mthD : Mth → D → D → Option D
  | .join => joinD
  | .split => splitD
  | .count => fun _ _ => none
def ityD : Ity → D → Option Bool
  | _, .opq _ => none
  | _, .obj _ _ => none
  | _, .dct _ => none
  | .int, .int _ => some true
  | .int, .bl _ => some true
  | .bool, .bl _ => some true
  | .str, .str _ => some true
  | .tuple, .tup _ => some true
  | .list, .lst _ => some true
  | _, _ => some false
def truD : D → Option Bool
  | .non => some false
  | .bl b => some b
  | .int i => some (!(i == 0))
  | .str s => if s.length ≤ lim then some (!s.isEmpty) else none
  | .tup s => some (!s.isEmpty)
  | .lst s => some (!s.isEmpty)
  | .opq _ => none
  | .obj _ _ => none
  | .dct _ => none
abbrev Gc := Nat → D
abbrev Cl := Nat → List D → M D
def lf {α : Type} : Option α → M α
  | some a => ok a
  | none => .stk
def lfD (o : Option D) : M Vv := match o with
  | some a => ok (.d a)
  | none => .stk
mutual
def asg : Tg → D → En → Option En
  | .nm i, d, e => if i < e.length then some (e.set i (some (.d d))) else none
  | .tp ts, .tup ds, e => asgs ts ds e
  | .tp _, _, _ => none
def asgs : List Tg → List D → En → Option En
  | [], [], e => some e
  | t :: ts, d :: ds, e => (asg t d e).bind fun e' => asgs ts ds e'
  | _, _, _ => none
end
def wip (e : En) : List Nat → En
  | [] => e
  | v :: vs => (wip e vs).set v none
def cmpL (f : D → M (Option D)) : List D → M (List D)
  | [] => ok []
  | d :: ds => bnd (f d) fun o => bnd (cmpL f ds) fun r => ok (match o with | some x => x :: r | none => r)
mutual
def isScal : D → Bool
  | .non => true | .bl _ => true | .int _ => true | .str _ => true
  | .tup xs => isScals xs
  | _ => false
def isScals : List D → Bool
  | [] => true
  | x :: xs => isScal x && isScals xs
end
mutual
def D.keyD : Nat → D → Bool
  | _, .non => true
  | _, .int _ => true
  | _, .str _ => true
  | n + 1, .tup xs => D.keyDs n xs
  | _, _ => false
def D.keyDs : Nat → List D → Bool
  | _, [] => true
  | n, x :: xs => D.keyD n x && D.keyDs n xs
end
def isTup : D → Bool
  | .tup _ => true
  | _ => false
mutual
def alk : D → D → Bool
  | .int _, .int _ => true
  | .str _, .str _ => true
  | .tup xs, .tup ys => alks xs ys
  | _, _ => false
def alks : List D → List D → Bool
  | x :: xs, y :: ys => alk x y && alks xs ys
  | [], _ => true
  | _ :: _, [] => true
end
mutual
def ltK : D → D → Bool
  | .int i, .int j => decide (i < j)
  | .str s, .str t => ltS s t
  | .tup xs, .tup ys => ltKs xs ys
  | _, _ => false
def ltKs : List D → List D → Bool
  | [], _ :: _ => true
  | x :: xs, y :: ys => match D.same x y with
    | true => ltKs xs ys
    | false => ltK x y
  | _, [] => false
end
def insK (x : D) : List D → List D
  | [] => [x]
  | y :: r => match ltK x y with
    | true => x :: y :: r
    | false => match D.same x y with
      | true => y :: r
      | false => y :: insK x r
def sortK : List D → List D
  | [] => []
  | x :: l => insK x (sortK l)
theorem sameK_no {x y : D} (h : x ≠ y) : D.same x y = false := by
  cases e : D.same x y with
  | false => rfl
  | true => exact absurd (D.same_eq e) h
theorem mem_insK {p x : D} : ∀ {l : List D}, x ∈ insK p l ↔ x = p ∨ x ∈ l
  | [] => by simp [insK]
  | y :: r => by
    rw [insK]
    cases h : ltK p y with
    | true => simp
    | false =>
      cases h2 : D.same p y with
      | true =>
        have := D.same_eq h2
        subst this
        simp
      | false =>
        show x ∈ y :: insK p r ↔ _
        rw [List.mem_cons, mem_insK, List.mem_cons]
        constructor
        · rintro (h | h | h) <;> simp [h]
        · rintro (h | h | h) <;> simp [h]
theorem mem_sortK {x : D} : ∀ {l : List D}, x ∈ sortK l ↔ x ∈ l
  | [] => Iff.rfl
  | p :: l => by rw [sortK, mem_insK, mem_sortK, List.mem_cons]
theorem ltS_no : ∀ a : List Nat, ltS a a = false
  | [] => rfl
  | x :: a => by simp [ltS, ltS_no a]
theorem ltS_one : ∀ a b : List Nat, ltS a b = true → ltS b a = false
  | [], [], _ => rfl
  | [], _ :: _, _ => rfl
  | _ :: _, [], h => by cases h
  | x :: a, y :: b, h => by
    rw [ltS] at h ⊢
    by_cases h1 : x < y
    · have h2 : ¬ y < x := by omega
      have h3 : (y == x) = false := beq_eq_false_iff_ne.mpr (by omega)
      rw [if_neg h2, h3]
      rfl
    · rw [if_neg h1] at h
      by_cases h2 : x = y
      · subst h2
        simp only [beq_self_eq_true, if_true, Nat.lt_irrefl, if_false] at h ⊢
        exact ltS_one a b h
      · rw [beq_eq_false_iff_ne.mpr h2] at h
        cases h
theorem ltS_any : ∀ a b : List Nat, ltS a b = false → ltS b a = false → a = b
  | [], [], _, _ => rfl
  | [], _ :: _, h, _ => by cases h
  | _ :: _, [], _, h => by cases h
  | x :: a, y :: b, h1, h2 => by
    rw [ltS] at h1 h2
    by_cases h3 : x < y
    · rw [if_pos h3] at h1
      cases h1
    · by_cases h4 : y < x
      · rw [if_pos h4] at h2
        cases h2
      · have : x = y := by omega
        subst this
        simp only [beq_self_eq_true, if_true, Nat.lt_irrefl, if_false] at h1 h2
        rw [ltS_any a b h1 h2]
theorem ltS_two : ∀ a b c : List Nat, ltS a b = true → ltS b c = true → ltS a c = true
  | _, _, [], _, h => by cases ‹List Nat› <;> cases h
  | [], _, _ :: _, _, _ => rfl
  | x :: a, [], _ :: _, h, _ => by cases h
  | x :: a, y :: b, z :: c, h1, h2 => by
    rw [ltS] at h1 h2 ⊢
    by_cases h3 : x < y
    · by_cases h4 : y < z
      · rw [if_pos (by omega)]
      · rw [if_neg h4] at h2
        by_cases h5 : y = z
        · rw [if_pos (by omega)]
        · rw [beq_eq_false_iff_ne.mpr h5] at h2
          cases h2
    · rw [if_neg h3] at h1
      by_cases h6 : x = y
      · subst h6
        simp only [beq_self_eq_true, if_true] at h1
        by_cases h4 : x < z
        · rw [if_pos h4]
        · rw [if_neg h4] at h2 ⊢
          by_cases h5 : x = z
          · subst h5
            simp only [beq_self_eq_true, if_true] at h2 ⊢
            exact ltS_two a b c h1 h2
          · rw [beq_eq_false_iff_ne.mpr h5] at h2
            cases h2
      · rw [beq_eq_false_iff_ne.mpr h6] at h1
        cases h1
mutual
theorem ltK_no : ∀ x : D, ltK x x = false
  | .non => rfl
  | .bl _ => rfl
  | .int i => by simp [ltK]
  | .str s => ltS_no s
  | .tup xs => ltKs_no xs
  | .lst _ => rfl
  | .opq _ => rfl
  | .obj _ _ => rfl
  | .dct _ => rfl
theorem ltKs_no : ∀ xs : List D, ltKs xs xs = false
  | [] => rfl
  | x :: xs => by rw [ltKs, D.same_self]; exact ltKs_no xs
end
mutual
theorem ltK_one : ∀ x y : D, ltK x y = true → ltK y x = false
  | .int i, y, h => by
    cases y <;> first | rfl | skip
    simp [ltK] at h ⊢
    omega
  | .str s, y, h => by
    cases y <;> first | rfl | skip
    exact ltS_one _ _ h
  | .tup xs, y, h => by
    cases y <;> first | rfl | skip
    exact ltKs_one _ _ h
  | .non, y, h => by cases y <;> cases h
  | .bl _, y, h => by cases y <;> cases h
  | .lst _, y, h => by cases y <;> cases h
  | .opq _, y, h => by cases y <;> cases h
  | .obj _ _, y, h => by cases y <;> cases h
  | .dct _, y, h => by cases y <;> cases h
theorem ltKs_one : ∀ xs ys : List D, ltKs xs ys = true → ltKs ys xs = false
  | [], [], _ => rfl
  | [], _ :: _, _ => rfl
  | _ :: _, [], h => by cases h
  | x :: xs, y :: ys, h => by
    rw [ltKs] at h ⊢
    by_cases e : x = y
    · subst e
      rw [D.same_self] at h ⊢
      exact ltKs_one xs ys h
    · rw [sameK_no e] at h
      rw [sameK_no (Ne.symm e)]
      exact ltK_one x y h
end
mutual
theorem ltK_any : ∀ x y : D, alk x y = true → ltK x y = false → ltK y x = false → x = y
  | .int i, y, h, h1, h2 => by
    cases y <;> first | (cases h; done) | skip
    simp [ltK] at h1 h2
    rw [Int.le_antisymm h2 h1]
  | .str s, y, h, h1, h2 => by
    cases y <;> first | (cases h; done) | skip
    rw [ltS_any _ _ h1 h2]
  | .tup xs, y, h, h1, h2 => by
    cases y <;> first | (cases h; done) | skip
    rw [ltKs_any _ _ h h1 h2]
  | .non, y, h, _, _ => by cases y <;> cases h
  | .bl _, y, h, _, _ => by cases y <;> cases h
  | .lst _, y, h, _, _ => by cases y <;> cases h
  | .opq _, y, h, _, _ => by cases y <;> cases h
  | .obj _ _, y, h, _, _ => by cases y <;> cases h
  | .dct _, y, h, _, _ => by cases y <;> cases h
theorem ltKs_any : ∀ xs ys : List D, alks xs ys = true → ltKs xs ys = false → ltKs ys xs = false → xs = ys
  | [], [], _, _, _ => rfl
  | [], _ :: _, _, h, _ => by cases h
  | _ :: _, [], _, _, h => by cases h
  | x :: xs, y :: ys, h, h1, h2 => by
    rw [alks, Bool.and_eq_true] at h
    rw [ltKs] at h1 h2
    by_cases e : x = y
    · subst e
      rw [D.same_self] at h1 h2
      rw [ltKs_any xs ys h.2 h1 h2]
    · rw [sameK_no e] at h1
      rw [sameK_no (Ne.symm e)] at h2
      exact absurd (ltK_any x y h.1 h1 h2) e
end
mutual
theorem ltK_two : ∀ x y z : D, ltK x y = true → ltK y z = true → ltK x z = true
  | .int i, y, z, h1, h2 => by
    cases y <;> first | (cases h1; done) | skip
    cases z <;> first | (cases h2; done) | skip
    simp [ltK] at h1 h2 ⊢
    omega
  | .str s, y, z, h1, h2 => by
    cases y <;> first | (cases h1; done) | skip
    cases z <;> first | (cases h2; done) | skip
    exact ltS_two _ _ _ h1 h2
  | .tup xs, y, z, h1, h2 => by
    cases y <;> first | (cases h1; done) | skip
    cases z <;> first | (cases h2; done) | skip
    exact ltKs_two _ _ _ h1 h2
  | .non, y, _, h, _ => by cases y <;> cases h
  | .bl _, y, _, h, _ => by cases y <;> cases h
  | .lst _, y, _, h, _ => by cases y <;> cases h
  | .opq _, y, _, h, _ => by cases y <;> cases h
  | .obj _ _, y, _, h, _ => by cases y <;> cases h
  | .dct _, y, _, h, _ => by cases y <;> cases h
theorem ltKs_two : ∀ xs ys zs : List D, ltKs xs ys = true → ltKs ys zs = true → ltKs xs zs = true
  | [], _, _ :: _, _, _ => rfl
  | [], [], [], h, _ => by cases h
  | [], _ :: _, [], _, h => by cases h
  | _ :: _, [], _, h, _ => by cases h
  | _ :: _, _ :: _, [], _, h => by cases h
  | x :: xs, y :: ys, z :: zs, h1, h2 => by
    rw [ltKs] at h1 h2 ⊢
    by_cases e : x = y
    · subst e
      rw [D.same_self] at h1
      by_cases e2 : x = z
      · subst e2
        rw [D.same_self] at h2 ⊢
        exact ltKs_two xs ys zs h1 h2
      · rw [sameK_no e2] at h2 ⊢
        exact h2
    · rw [sameK_no e] at h1
      by_cases e2 : y = z
      · subst e2
        rw [sameK_no e]
        exact h1
      · rw [sameK_no e2] at h2
        have h1 : ltK x y = true := h1
        have h2 : ltK y z = true := h2
        have e3 : x ≠ z := fun q => by
          subst q
          have := ltK_one x y h1
          rw [h2] at this
          cases this
        rw [sameK_no e3]
        exact ltK_two x y z h1 h2
end
theorem insK_pw {p : D} : ∀ {l : List D}, (∀ y ∈ l, alk p y = true) → l.Pairwise (fun a b => ltK a b = true) → (insK p l).Pairwise fun a b => ltK a b = true
  | [], _, _ => by simp [insK]
  | y :: r, ha, h => by
    obtain ⟨h1, h2⟩ := List.pairwise_cons.mp h
    rw [insK]
    cases e : ltK p y with
    | true =>
      refine List.pairwise_cons.mpr ⟨fun x hx => ?_, h⟩
      rcases List.mem_cons.mp hx with rfl | hx
      · exact e
      · exact ltK_two _ _ _ e (h1 x hx)
    | false =>
      cases e2 : D.same p y with
      | true => exact h
      | false =>
        refine List.pairwise_cons.mpr ⟨fun x hx => ?_, insK_pw (fun z hz => ha z (List.mem_cons_of_mem _ hz)) h2⟩
        rcases mem_insK.mp hx with rfl | hx
        · cases e3 : ltK y x with
          | true => rfl
          | false =>
            have := ltK_any x y (ha y List.mem_cons_self) e e3
            rw [this, D.same_self] at e2
            cases e2
        · exact h1 x hx
theorem sortK_pw : ∀ {l : List D}, (∀ x ∈ l, ∀ y ∈ l, alk x y = true) → (sortK l).Pairwise fun a b => ltK a b = true
  | [], _ => .nil
  | p :: l, h => insK_pw (fun y hy => h p List.mem_cons_self y (List.mem_cons_of_mem _ (mem_sortK.mp hy))) (sortK_pw fun x hx y hy => h x (List.mem_cons_of_mem _ hx) y (List.mem_cons_of_mem _ hy))
theorem sortedK_ext : ∀ {l m : List D}, l.Pairwise (fun a b => ltK a b = true) → m.Pairwise (fun a b => ltK a b = true) → (∀ x, x ∈ l ↔ x ∈ m) → l = m
  | [], [], _, _, _ => rfl
  | [], y :: m, _, _, h => by have := (h y).mpr List.mem_cons_self; cases this
  | x :: l, [], _, _, h => by have := (h x).mp List.mem_cons_self; cases this
  | x :: l, y :: m, h1, h2, h => by
    obtain ⟨a1, a2⟩ := List.pairwise_cons.mp h1
    obtain ⟨b1, b2⟩ := List.pairwise_cons.mp h2
    have irr : ∀ z : D, ¬ ltK z z = true := fun z q => by rw [ltK_no] at q; cases q
    have e : x = y := by
      rcases List.mem_cons.mp ((h x).mp List.mem_cons_self) with e | e
      · exact e
      · rcases List.mem_cons.mp ((h y).mpr List.mem_cons_self) with e' | e'
        · exact e'.symm
        · exact absurd (ltK_two _ _ _ (b1 x e) (a1 y e')) (irr y)
    subst e
    rw [sortedK_ext a2 b2 fun z => ?_]
    constructor
    · intro hz
      rcases List.mem_cons.mp ((h z).mp (List.mem_cons_of_mem _ hz)) with rfl | q
      · exact absurd (a1 z hz) (irr z)
      · exact q
    · intro hz
      rcases List.mem_cons.mp ((h z).mpr (List.mem_cons_of_mem _ hz)) with rfl | q
      · exact absurd (b1 z hz) (irr z)
      · exact q
def neTup : D → Bool
  | .tup (_ :: _) => true
  | _ => false
def seqK : D → Option (List D)
  | .lst xs => some xs
  | .tup xs => some xs
  | _ => none
def sstL (xs : List D) : Option D := match Nat.ble xs.length 4000 && (xs.all fun x => isTup x && D.keyD 8 x && D.shp 8 x) && (xs.all fun x => xs.all (alk x)) && Nat.ble (sortK xs).length 299 && (xs.all neTup || Nat.ble (sortK xs).length 1) with
  | true => some (.lst (sortK xs))
  | false => none
def sstN (x : D) : Option D := (seqK x).bind sstL
def sstA (x : D) : Option D := match sstD x with
  | some z => some z
  | none => match sstI x with
    | some z => some z
    | none => sstN x
def onceK : List D → List D
  | [] => []
  | x :: r => match r.any (D.same x) with
    | true => onceK r
    | false => x :: onceK r
def lnsL (xs : List D) : Option D := match allInt xs with
  | some ns => match Nat.ble ns.length 4000 with
    | true => some (.int ((sortJ ns).length : Nat))
    | false => none
  | none => match Nat.ble xs.length 299 && (xs.all fun x => isTup x && D.keyD 8 x) with
    | true => some (.int ((onceK xs).length : Nat))
    | false => none
def lnsD (x : D) : Option D := (seqK x).bind lnsL
def kkD (k : D) (kvs : List D) : Bool := match k with
  | .tup xs => D.keyD 8 (.tup xs) && (match kvs with
    | [] => true
    | k' :: _ => isTup k')
  | .int _ => (match kvs with
    | [] => true
    | k' :: _ => !isTup k')
  | _ => false
def pairsL : List D → List D → Option (List D)
  | acc, [] => some acc
  | acc, .tup [k, v] :: r => match kkD k acc && isTup k && Nat.blt acc.length lim with
    | true => pairsL (putD k v acc) r
    | false => none
  | _, _ => none
def insI (i : Int) : List Int → List Int
  | [] => [i]
  | j :: r => if i ≤ j then i :: j :: r else j :: insI i r
def sortI : List Int → List Int
  | [] => []
  | i :: r => insI i (sortI r)
def srkD (kvs : List D) : Option D := (allInt (keysD kvs)).bind fun is => if is.length < 64 then some (.lst ((sortI is).map .int)) else none
def lskD (kvs : List D) : Option D := if (keysD kvs).length ≤ lim then some (.lst (keysD kvs)) else none
def pairsD (ps : List D) : Option (List D) := if ps.length ≤ lim then pairsL [] ps else none
def anyR : List Vv → Bool
  | [] => false
  | .r _ :: _ => true
  | .d _ :: r => anyR r
def rdVs (h : Hq) : List Vv → Option (List D)
  | [] => some []
  | v :: r => (rdV h v).bind fun d => (rdVs h r).map (d :: ·)
def dats0 : List Vv → Option (List D)
  | [] => some []
  | .d x :: r => (dats0 r).map (x :: ·)
  | .r _ :: _ => none
def dats (vs : List Vv) : Option (List D) := match Nat.ble vs.length 1000 with
  | true => dats0 vs
  | false => none
def rngD (lo hi : Int) : Option (List D) := if (-(10000000 : Int) ≤ lo ∧ lo ≤ 10000000) ∧ (-(10000000 : Int) ≤ hi ∧ hi ≤ 10000000) then some ((List.range (hi - lo).toNat).map fun (i : Nat) => .int (lo + (i : Int))) else none
def rngN (lo hi : Int) : Option (List D) := if (-(10000000 : Int) ≤ lo ∧ lo ≤ 10000000) ∧ (-(10000000 : Int) ≤ hi ∧ hi ≤ 10000000) then some ((List.range (lo - hi).toNat).map fun (i : Nat) => .int (lo - (i : Int))) else none
def enumL : Nat → List D → List D
  | _, [] => []
  | n, d :: ds => .tup [.int n, d] :: enumL (n + 1) ds
def zipL : List D → List D → List D
  | d :: ds, d' :: ds' => .tup [d, d'] :: zipL ds ds'
  | _, _ => []
def seqD : D → Option (List D)
  | .tup xs => some xs
  | .lst xs => some xs
  | .str s => if s.length ≤ lim then some (s.map fun c => .str [c]) else none
  | _ => none
def noEx {α : Type} (m : M α) : M α := m.bind fun r => match r with
  | .ok a => ok a
  | .ex _ => .stk
def op2 (h : Hq) (f : D → D → Option D) (v w : Vv) : M Vv := match rdV h v, rdV h w with
  | some x, some y => lfD (f x y)
  | _, _ => .stk
def look3 (k1 k2 k3 : List Nat) (x y z : D) (s : List Nat) : Option D := if s = k1 then some x else if s = k2 then some y else if s = k3 then some z else none
def exNm : Nat → Option (Nat × List Nat)
  | 0 => some (0, [114, 117, 108, 101])
  | 1 => some (2, [108, 105, 110, 101])
  | 2 => some (6, [115, 105, 100, 101])
  | 3 => some (3, [115, 112, 111, 116])
  | 4 => some (1, [114, 117, 108, 101, 115])
  | 5 => some (4, [119, 111, 114, 100, 115])
  | 6 => some (10, [117, 110, 115, 117, 114, 101])
  | 7 => some (11, [97, 108, 105, 107, 101])
  | 8 => some (5, [115, 105, 122, 101, 115])
  | 9 => some (12, [110, 111, 110, 101])
  | 10 => some (7, [99, 111, 117, 110, 116])
  | 11 => some (9, [115, 99, 114, 105, 112, 116])
  | 13 => some (8, [115, 105, 103, 110])
  | 14 => some (13, [109, 117, 99, 104])
  | 15 => some (14, [111, 118, 101, 114])
  | 16 => some (15, [117, 110, 100, 111])
  | _ => none
abbrev retS : List Nat := [114, 101, 116, 117, 114, 110, 115]
def lenI : D → Option D
  | .int i => if 0 ≤ i ∧ i ≤ 1000000 then some (.int i) else none
  | _ => none
def eqI (ng : Bool) : D → Option D
  | .bl b => some (.bl (b != ng))
  | _ => none
def oeqR : List D → Bool
  | [.obj c _, .obj d _] => Nat.beq c d
  | [.obj _ _, .str _] => true
  | _ => false
def isoD (c : Nat) : D → Option Bool
  | .obj d _ => match Nat.beq c d with
    | true => some true
    | false => none
  | .str _ => some false
  | _ => none
mutual
def evE (gc : Gc) (cl : Cl) : Ex → En → Hq → M Vv
  | .var i, e, _ => match e.getD i none with
    | some v => ok v
    | none => .stk
  | .cst d, _, _ => ok (.d d)
  | .glo g, _, _ => ok (.d (gc g))
  | .tup es, e, h => bnd (evEs gc cl es e h) fun vs => lfD ((dats vs).map .tup)
  | .lst es, e, h => bnd (evEs gc cl es e h) fun vs => lfD ((dats vs).map .lst)
  | .bop o a b, e, h => bnd (evE gc cl a e h) fun v => bnd (evE gc cl b e h) fun w => op2 h (bopD o) v w
  | .neg a, e, h => bnd (evE gc cl a e h) fun v => match v with
    | .d (.int i) => ok (.d (.int (-i)))
    | _ => .stk
  | .cmp o a b, e, h => bnd (evE gc cl a e h) fun v => bnd (evE gc cl b e h) fun w => op2 h (fun x y => (cmpD o x y).map .bl) v w
  | .chn o p a b c, e, h => bnd (evE gc cl a e h) fun v => bnd (evE gc cl b e h) fun w => bnd (op2 h (fun x y => (cmpD o x y).map .bl) v w) fun k => match k with
    | .d (.bl true) => bnd (evE gc cl c e h) fun u => op2 h (fun x y => (cmpD p x y).map .bl) w u
    | .d (.bl false) => ok (.d (.bl false))
    | _ => .stk
  | .and a b, e, h => bnd (evE gc cl a e h) fun v => match v with
    | .d (.bl true) => evE gc cl b e h
    | .d (.bl false) => ok (.d (.bl false))
    | _ => .stk
  | .or a b, e, h => bnd (evE gc cl a e h) fun v => match v with
    | .d (.bl false) => evE gc cl b e h
    | .d (.bl true) => ok (.d (.bl true))
    | _ => .stk
  | .not a, e, h => bnd (evE gc cl a e h) fun v => match v with
    | .d (.bl b) => ok (.d (.bl (!b)))
    | _ => .stk
  | .ite c a b, e, h => bnd (evT gc cl c e h) fun k => match k with
    | true => evE gc cl a e h
    | false => evE gc cl b e h
  | .sub a i, e, h => bnd (evE gc cl a e h) fun v => bnd (evE gc cl i e h) fun w => op2 h subD v w
  | .slc a lo hi, e, h => bnd (evE gc cl a e h) fun v => bnd (evO gc cl lo e h) fun l => bnd (evO gc cl hi e h) fun u => match rdV h v with
    | some x => lfD (slcD x l u)
    | none => .stk
  | .cal f es, e, h => bnd (evEs gc cl es e h) fun vs => match rdVs h vs with
    | some ds => bnd (cl f ds) fun d => match !anyR vs || isScal d with
      | true => ok (.d d)
      | false => .stk
    | none => .stk
  | .cak f es ks, e, h => bnd (evEs gc cl es e h) fun vs => bnd (evEs gc cl ks e h) fun ws => match rdVs h (vs ++ ws) with
    | some ds => bnd (cl f ds) fun d => match !anyR (vs ++ ws) || isScal d with
      | true => ok (.d d)
      | false => .stk
    | none => .stk
  | .blt b es, e, h => bnd (evEs gc cl es e h) fun vs => match rdVs h vs with
    | some ds => lfD (bltD b ds)
    | none => .stk
  | .mth m o a, e, h => bnd (evE gc cl o e h) fun v => match m, v with
    | .join, .d (.str s) => bnd (evE gc cl a e h) fun w => op2 h joinD (.d (.str s)) w
    | .split, .d (.str s) => bnd (evE gc cl a e h) fun w => op2 h splitD (.d (.str s)) w
    | .count, .d (.lst xs) => bnd (evE gc cl a e h) fun w => op2 h countD (.d (.lst xs)) w
    | _, _ => .stk
  | .sst a, e, h => bnd (evE gc cl a e h) fun v => match rdV h v with
    | some x => lfD (sstA x)
    | none => .stk
  | .lns a, e, h => bnd (evE gc cl a e h) fun v => match rdV h v with
    | some x => lfD (lnsD x)
    | none => .stk
  | .res x, e, h => (evE gc cl x e h).bind fun r => match r with
    | .ok (.d d) => ok (.d (.tup [.str retS, d]))
    | .ok (.r _) => .stk
    | .ex c => match exNm c with
      | some (_, s) => ok (.d (.tup [.str s]))
      | none => .stk
  | .isi t a, e, h => bnd (evE gc cl a e h) fun v => match rdV h v with
    | some x => lfD ((ityD t x).map .bl)
    | none => .stk
  | .dl3 k1 k2 k3 a b c i, e, h => bnd (evE gc cl a e h) fun x => bnd (evE gc cl b e h) fun y => bnd (evE gc cl c e h) fun z => bnd (evE gc cl i e h) fun w => match x, y, z, w with
    | .d x, .d y, .d z, .d (.str s) => lfD (look3 k1 k2 k3 x y z s)
    | _, _, _, _ => .stk
  | .fld a f, e, h => bnd (evE gc cl a e h) fun v => match v with
    | .d (.obj c fs) => lfD (fldL c f fs)
    | .d _ => .stk
    | .r n => match h[n]? with
      | some (.ins c fs _) => match fldL c f fs with
        | some w => ok w
        | none => .stk
      | _ => .stk
  | .cam _ ms o es, e, h => bnd (evE gc cl o e h) fun v => match clsV h v with
    | some c => match ms.lookup c with
      | some f => bnd (evEs gc cl es e h) fun vs => match rdVs h (v :: vs) with
        | some ds => bnd (cl f ds) fun d => match !anyR (v :: vs) || isScal d with
          | true => ok (.d d)
          | false => .stk
        | none => .stk
      | none => .stk
    | none => .stk
  | .mak f es, e, h => bnd (evEs gc cl es e h) fun vs => match rdVs h vs with
    | some ds => bnd (cl f ds) fun d => match !anyR vs || isScal d with
      | true => ok (.d d)
      | false => .stk
    | none => .stk
  | .oln ms o, e, h => bnd (evE gc cl o e h) fun v => match clsV h v with
    | some c => match ms.lookup c with
      | some f => match rdVs h [v] with
        | some ds => bnd (cl f ds) fun d => lfD (lenI d)
        | none => .stk
      | none => .stk
    | none => .stk
  | .oeq ng ms a b, e, h => bnd (evE gc cl a e h) fun v => bnd (evE gc cl b e h) fun w => match clsV h v with
    | some c => match ms.lookup c with
      | some f => match rdVs h [v, w] with
        | some ds => match oeqR ds with
          | true => bnd (cl f ds) fun d => lfD (eqI ng d)
          | false => .stk
        | none => .stk
      | none => .stk
    | none => .stk
  | .iso c a, e, h => bnd (evE gc cl a e h) fun v => match rdV h v with
    | some x => lfD ((isoD c x).map .bl)
    | none => .stk
  | .dgi x k, e, h => bnd (evE gc cl x e h) fun v => bnd (evE gc cl k e h) fun w => match rdV h v, w with
    | some (.dct kvs), .d kd => match kkD kd kvs with
      | true => lfD (lookD kd kvs)
      | false => .stk
    | _, _ => .stk
  | .din ng k x, e, h => bnd (evE gc cl k e h) fun w => bnd (evE gc cl x e h) fun v => match rdV h v, w with
    | some (.dct kvs), .d kd => match kkD kd kvs with
      | true => ok (.d (.bl ((lookD kd kvs).isSome != ng)))
      | false => .stk
    | _, _ => .stk
  | .dgt x k d, e, h => bnd (evE gc cl x e h) fun v => match rdV h v with
    | some (.dct kvs) => bnd (evE gc cl k e h) fun w => bnd (evE gc cl d e h) fun u => match w, u with
      | .d kd, .d dd => match kkD kd kvs with
        | true => ok (.d ((lookD kd kvs).getD dd))
        | false => .stk
      | _, _ => .stk
    | _ => .stk
  | .srk x, e, h => bnd (evE gc cl x e h) fun v => match rdV h v with
    | some (.dct kvs) => lfD (srkD kvs)
    | _ => .stk
  | .lsk x, e, h => bnd (evE gc cl x e h) fun v => match rdV h v with
    | some (.dct kvs) => lfD (lskD kvs)
    | _ => .stk
  | .dcl x, e, h => bnd (evE gc cl x e h) fun v => match v with
    | .d (.lst ps) => match pairsD ps with
      | some kvs => ok (.d (.dct kvs))
      | none => .stk
    | _ => .stk
  | .cmp1 elt tg it own, e, h => bnd (evI gc cl it e h) fun xs => match Nat.ble xs.length lim with
    | true => bnd (noEx (cmpL (fun d => match asg tg d (wip e own) with
      | some e1 => bnd (evE gc cl elt e1 h) fun v => match v with
        | .d x => ok (some x)
        | .r _ => .stk
      | none => .stk) xs)) fun ys => ok (.d (.lst ys))
    | false => .stk
  | .cmpc elt tg it c own, e, h => bnd (evI gc cl it e h) fun xs => match Nat.ble xs.length lim with
    | true => bnd (noEx (cmpL (fun d => match asg tg d (wip e own) with
      | some e1 => bnd (evT gc cl c e1 h) fun k => match k with
        | true => bnd (evE gc cl elt e1 h) fun v => match v with
          | .d x => ok (some x)
          | .r _ => .stk
        | false => ok none
      | none => .stk) xs)) fun ys => ok (.d (.lst ys))
    | false => .stk
def evEs (gc : Gc) (cl : Cl) : Exs → En → Hq → M (List Vv)
  | .nil, _, _ => ok []
  | .cons x xs, e, h => bnd (evE gc cl x e h) fun v => bnd (evEs gc cl xs e h) fun vs => ok (v :: vs)
def evO (gc : Gc) (cl : Cl) : Ox → En → Hq → M (Option Int)
  | .no, _, _ => ok none
  | .so x, e, h => bnd (evE gc cl x e h) fun v => match v with
    | .d (.int i) => ok (some i)
    | _ => .stk
def evT (gc : Gc) (cl : Cl) : Tx → En → Hq → M Bool
  | .val x, e, h => bnd (evE gc cl x e h) fun v => match rdV h v with
    | some d => lf (truD d)
    | none => .stk
  | .and a b, e, h => bnd (evT gc cl a e h) fun k => match k with
    | true => evT gc cl b e h
    | false => ok false
  | .or a b, e, h => bnd (evT gc cl a e h) fun k => match k with
    | true => ok true
    | false => evT gc cl b e h
  | .not a, e, h => bnd (evT gc cl a e h) fun k => ok (!k)
def evI (gc : Gc) (cl : Cl) : Ix → En → Hq → M (List D)
  | .seq x, e, h => bnd (evE gc cl x e h) fun v => match v with
    | .d d => lf (seqD d)
    | .r _ => .stk
  | .own i, e, h => match e.getD i none with
    | some (.r n) => match h[n]? with
      | some (.lst xs) => ok xs
      | _ => .stk
    | _ => .stk
  | .enm x, e, h => bnd (evE gc cl x e h) fun v => match v with
    | .d (.tup ds) => ok (enumL 0 ds)
    | .d (.lst ds) => ok (enumL 0 ds)
    | .d (.str s) => ok (enumL 0 (s.map fun c => .str [c]))
    | _ => .stk
  | .dky x, e, h => bnd (evE gc cl x e h) fun v => match v with
    | .d (.dct kvs) => ok (keysD kvs)
    | _ => .stk
  | .zip x y, e, h => bnd (evE gc cl x e h) fun v => bnd (evE gc cl y e h) fun w => match v, w with
    | .d (.lst ds), .d (.lst ds') => ok (zipL ds ds')
    | _, _ => .stk
  | .rg1 a, e, h => bnd (evE gc cl a e h) fun v => match v with
    | .d (.int i) => lf (rngD 0 i)
    | _ => .stk
  | .rg2 a b, e, h => bnd (evE gc cl a e h) fun v => bnd (evE gc cl b e h) fun w => match v, w with
    | .d (.int i), .d (.int j) => lf (rngD i j)
    | _, _ => .stk
  | .rg3 a b c, e, h => bnd (evE gc cl a e h) fun v => bnd (evE gc cl b e h) fun w => bnd (evE gc cl c e h) fun u => match v, w, u with
    | .d (.int i), .d (.int j), .d (.int k) => if k = -1 then lf (rngN i j) else .stk
    | _, _, _ => .stk
end
def isOwn : Ix → Bool
  | .own _ => true
  | _ => false
mutual
def tgS : Tg → List Nat
  | .nm i => [i]
  | .tp ts => tgSs ts
def tgSs : List Tg → List Nat
  | [] => []
  | t :: ts => tgS t ++ tgSs ts
end
inductive Fl where
  | nx (e : En) (h : Hq)
  | rt (v : Vv) (h : Hq)
  | bk (e : En) (h : Hq)
  | ct (e : En) (h : Hq)
  | ex (c : Nat)
def encV : Vv → D
  | .d x => .tup [x]
  | .r n => .int n
def decV : D → Option Vv
  | .tup [x] => some (.d x)
  | .int n => match n with
    | .ofNat k => some (.r k)
    | _ => none
  | _ => none
def decVs : List D → Option (List Vv)
  | [] => some []
  | d :: r => (decV d).bind fun v => (decVs r).map (v :: ·)
def encO : Ob → D
  | .lst xs => .lst xs
  | .dct xs => .dct xs
  | .lsv vs => .tup (vs.map encV)
  | .gone => .non
  | .ins c fs m => .obj c (.int m :: fs.map encV)
def decO : D → Option Ob
  | .lst xs => some (.lst xs)
  | .dct xs => some (.dct xs)
  | .tup vs => (decVs vs).map .lsv
  | .non => some .gone
  | .obj c (.int (.ofNat m) :: fs) => (decVs fs).map fun vs => .ins c vs m
  | _ => none
def decOs : List D → Option Hq
  | [] => some []
  | d :: r => (decO d).bind fun v => (decOs r).map (v :: ·)
def encH (h : Hq) : D := .lst (h.map encO)
def decH : D → Option Hq
  | .lst os => decOs os
  | _ => none
def encR (p : Vv × Hq) : D := .tup [encV p.1, encH p.2]
def decR : D → Option (Vv × Hq)
  | .tup [v, h] => (decV v).bind fun w => (decH h).map fun g => (w, g)
  | _ => none
def shV (k : Nat) : Vv → Vv
  | .d x => .d x
  | .r n => .r (k + n)
def shO (k : Nat) : Ob → Ob
  | .lst xs => .lst xs
  | .ins c fs m => .ins c (fs.map (shV k)) m
  | .dct kvs => .dct kvs
  | .lsv vs => .lsv (vs.map (shV k))
  | .gone => .gone
inductive Rh where
  | ex (x : Ex)
  | new (es : Exs)
  | rep (es : Exs) (n : Ex)
  | ite (c : Tx) (a b : Rh)
  | mko (f : Nat) (es : Exs)
  | wcl (c f i : Nat) (es : Exs)
  | rsw (c f i : Nat) (es : Exs)
  | bop (o : Bop) (a b : Rh)
  | cmp (o : Cop) (a b : Rh)
  | and (a b : Rh)
  | dnw
  | dn1 (k v : Ex)
  | nwv
inductive Tr where
  | pur (t : Tx)
  | cmp (o : Cop) (a b : Rh)
  | and (a b : Tr)
  | or (a b : Tr)
mutual
inductive Sx where
  | set (tg : Tg) (x : Ex)
  | put (i : Nat) (r : Rh)
  | par (is : List Nat) (rs : List Rh)
  | aug (i : Nat) (o : Bop) (x : Ex)
  | app (i : Nat) (x : Ex)
  | ext (i : Nat) (x : Ex)
  | sti (i : Nat) (j x : Ex)
  | ife (c : Tx) (a b : Ss)
  | whl (c : Tx) (b : Ss)
  | for_ (tg : Tg) (it : Ix) (b : Ss)
  | forr (tg : Tg) (i : Nat) (b : Ss)
  | ret (x : Ex)
  | retn
  | rai (c : Nat)
  | exp (x : Ex)
  | fse (s f : Nat) (r : Rh)
  | fmn (c s j : Nat)
  | memo (c j s k1 k2 : Nat) (body : Ss) (val : Ex)
  | exr (r : Rh)
  | rtr (r : Rh)
  | dst (i : Nat) (k v : Ex)
  | hap (i : Nat) (x : Ex)
  | frz (i : Nat)
  | ifr (c : Tr) (a b : Ss)
  | fap (s f : Nat) (x : Ex)
  | fpp (s f : Nat)
  | any
  | brk
  | cnt
inductive Ss where
  | nil
  | cons (s : Sx) (ss : Ss)
end
def onE {α : Type} (m : M α) (f : α → F Fl) : F Fl := m.bind fun r => match r with
  | .ok a => f a
  | .ex c => .ret (.ex c)
def onN (m : F Fl) (f : En → Hq → F Fl) : F Fl := m.bind fun r => match r with
  | .nx e h => f e h
  | r => .ret r
def forL (tg : Tg) (body : En → Hq → F Fl) : List D → En → Hq → F Fl
  | [], e, h => .ret (.nx e h)
  | d :: ds, e, h => match asg tg d e with
    | some e1 => (body e1 h).bind fun r => match r with
      | .nx e2 h2 => forL tg body ds e2 h2
      | .ct e2 h2 => forL tg body ds e2 h2
      | .bk e2 h2 => .ret (.nx e2 h2)
      | .rt v h2 => .ret (.rt v h2)
      | .ex c => .ret (.ex c)
    | none => .stk
def forR (tg : Tg) (n : Nat) (body : En → Hq → F Fl) : Nat → Nat → En → Hq → F Fl
  | 0, i, e, h => match h[n]? with
    | some (.lst ys) => match Nat.beq ys.length i with
      | true => .ret (.nx e h)
      | false => .stk
    | _ => .stk
  | m + 1, i, e, h => match h[n]? with
    | some (.lst ys) => match ys[i]? with
      | some d => match asg tg d e with
        | some e1 => (body e1 h).bind fun r => match r with
          | .nx e2 h2 => forR tg n body m (i + 1) e2 h2
          | .ct e2 h2 => forR tg n body m (i + 1) e2 h2
          | .bk e2 h2 => .ret (.nx e2 h2)
          | .rt v h2 => .ret (.rt v h2)
          | .ex c => .ret (.ex c)
        | none => .stk
      | none => .stk
    | _ => .stk
def whlL (cond : En → Hq → M Bool) (body : En → Hq → F Fl) : Nat → En → Hq → F Fl
  | 0, _, _ => .stk
  | n + 1, e, h => onE (cond e h) fun k => match k with
    | true => (body e h).bind fun r => match r with
      | .nx e2 h2 => whlL cond body n e2 h2
      | .ct e2 h2 => whlL cond body n e2 h2
      | .bk e2 h2 => .ret (.nx e2 h2)
      | .rt v h2 => .ret (.rt v h2)
      | .ex c => .ret (.ex c)
    | false => .ret (.nx e h)
def callW (gc : Gc) (cl : Cl) (c f i : Nat) (es : Exs) (e : En) (h : Hq) : M (Vv × Hq) := match e.getD i none with
  | some (.r n) => match clsV h (.r n) with
    | some c' => match Nat.beq c' c with
      | true => bnd (evEs gc cl es e h) fun vs => bnd (cl f (encH h :: encV (.r n) :: vs.map encV)) fun d => match decR d with
        | some p => ok p
        | none => .stk
      | false => .stk
    | none => .stk
  | _ => .stk
def evR (gc : Gc) (cl : Cl) : Rh → En → Hq → M (Vv × Hq)
  | .ex x, e, h => bnd (evE gc cl x e h) fun v => ok (v, h)
  | .new es, e, h => bnd (evEs gc cl es e h) fun vs => match dats vs with
    | some ds => ok (.r h.length, h ++ [.lst ds])
    | none => .stk
  | .rep es n, e, h => bnd (evEs gc cl es e h) fun vs => match dats vs with
    | some ds => bnd (evE gc cl n e h) fun w => match w with
      | .d (.int k) => if 0 ≤ k ∧ k ≤ 10000 ∧ ds.length ≤ 100 then ok (.r h.length, h ++ [.lst (repD k.toNat ds)]) else .stk
      | _ => .stk
    | none => .stk
  | .ite c a b, e, h => bnd (evT gc cl c e h) fun k => match k with
    | true => evR gc cl a e h
    | false => evR gc cl b e h
  | .mko f es, e, h => bnd (evEs gc cl es e h) fun vs => match dats vs with
    | some ds => bnd (cl f ds) fun d => match decH d with
      | some h1 => ok (.r h.length, h ++ h1.map (shO h.length))
      | none => .stk
    | none => .stk
  | .wcl c f i es, e, h => callW gc cl c f i es e h
  | .rsw c f i es, e, h => (callW gc cl c f i es e h).bind fun r => match r with
    | .ok (.d d, h1) => ok (.d (.tup [.str retS, d]), h1)
    | .ok (.r _, _) => .stk
    | .ex c => match exNm c with
      | some (_, s) => ok (.d (.tup [.str s]), h)
      | none => .stk
  | .bop o a b, e, h => bnd (evR gc cl a e h) fun p => bnd (evR gc cl b e p.2) fun q => match p.1, q.1 with
    | .d x, .d y => match bopD o x y with
      | some z => ok (.d z, q.2)
      | none => .stk
    | _, _ => .stk
  | .cmp o a b, e, h => bnd (evR gc cl a e h) fun p => bnd (evR gc cl b e p.2) fun q => match p.1, q.1 with
    | .d x, .d y => match cmpD o x y with
      | some z => ok (.d (.bl z), q.2)
      | none => .stk
    | _, _ => .stk
  | .and a b, e, h => bnd (evR gc cl a e h) fun p => match p.1 with
    | .d (.bl true) => evR gc cl b e p.2
    | .d (.bl false) => ok (.d (.bl false), p.2)
    | _ => .stk
  | .dnw, _, h => ok (.r h.length, h ++ [.dct []])
  | .dn1 k v, e, h => bnd (evE gc cl k e h) fun w => bnd (evE gc cl v e h) fun u => match w, u with
    | .d (.tup ks), .d vd => match D.keyD 8 (.tup ks) with
      | true => ok (.r h.length, h ++ [.dct [.tup ks, vd]])
      | false => .stk
    | _, _ => .stk
  | .nwv, _, h => ok (.r (h.length + 1), h ++ [.lst [], .lsv [.r h.length]])
def evTr (gc : Gc) (cl : Cl) : Tr → En → Hq → M (Bool × Hq)
  | .pur t, e, h => bnd (evT gc cl t e h) fun k => ok (k, h)
  | .cmp o a b, e, h => bnd (evR gc cl a e h) fun p => bnd (evR gc cl b e p.2) fun q => match p.1, q.1 with
    | .d x, .d y => match cmpD o x y with
      | some z => ok (z, q.2)
      | none => .stk
    | _, _ => .stk
  | .and a b, e, h => bnd (evTr gc cl a e h) fun p => match p.1 with
    | true => evTr gc cl b e p.2
    | false => ok (false, p.2)
  | .or a b, e, h => bnd (evTr gc cl a e h) fun p => match p.1 with
    | true => ok (true, p.2)
    | false => evTr gc cl b e p.2
def evRs (gc : Gc) (cl : Cl) : List Rh → En → Hq → M (List Vv × Hq)
  | [], _, h => ok ([], h)
  | r :: rs, e, h => bnd (evR gc cl r e h) fun p => bnd (evRs gc cl rs e p.2) fun q => ok (p.1 :: q.1, q.2)
def sets : List Nat → List Vv → En → Option En
  | [], [], e => some e
  | i :: is, v :: vs, e => if i < e.length then sets is vs (e.set i (some v)) else none
  | _, _, _ => none
def setF (h : Hq) (n f : Nat) (v : Vv) : Option Hq := match h[n]? with
  | some (.ins c fs 0) => match posL f (cf c) with
    | some i => match Nat.blt i fs.length with
      | true => some (h.set n (.ins c (fs.set i v) 0))
      | false => match Nat.beq i fs.length with
        | true => some (h.set n (.ins c (fs ++ [v]) 0))
        | false => none
    | none => none
  | _ => none
def mkT (h : Hq) (n c0 j : Nat) : Option Hq := match h[n]? with
  | some (.ins c fs m) => match Nat.beq c c0 && Nat.beq m j && Nat.blt j (cm c) && Nat.beq fs.length (cf c).length with
    | true => match dats0 fs with
      | some _ => some (h.set n (.ins c fs (m + 1)))
      | none => none
    | false => none
  | _ => none
def ownL (h : Hq) (v : Option Vv) (f : Nat) : Option (Nat × List D) := match v with
  | some (.r n) => match h[n]? with
    | some (.ins c fs _) => match fldL c f fs with
      | some (.r k) => match h[k]? with
        | some (.lst xs) => some (k, xs)
        | _ => none
      | _ => none
    | _ => none
  | _ => none
def memB [MF] (c j : Nat) (o k v : D) : Bool := match MF.f (8 * c + j) o k with
  | some d => D.same d v && isScal v && isTup k && D.keyD 8 k && Nat.blt j (cm c)
  | none => false
mutual
def exS [MF] (gc : Gc) (cl : Cl) (wn : Nat) : Sx → En → Hq → F Fl
  | .set tg x, e, h => onE (evE gc cl x e h) fun v => match v with
    | .d d => match asg tg d e with
      | some e1 => .ret (.nx e1 h)
      | none => .stk
    | .r _ => .stk
  | .put i r, e, h => onE (evR gc cl r e h) fun p => if i < e.length then .ret (.nx (e.set i (some p.1)) p.2) else .stk
  | .par is rs, e, h => onE (evRs gc cl rs e h) fun p => match sets is p.1 e with
    | some e1 => .ret (.nx e1 p.2)
    | none => .stk
  | .aug i o x, e, h => match e.getD i none with
    | some (.d a) => onE (evE gc cl x e h) fun v => match v with
      | .d b => match o, a, b with
        | .add, .int p, .int q => .ret (.nx (e.set i (some (.d (.int (p + q))))) h)
        | _, _, _ => .stk
      | .r _ => .stk
    | _ => .stk
  | .app i x, e, h => match e.getD i none with
    | some (.r n) => match h[n]? with
      | some (.lst xs) => onE (evE gc cl x e h) fun v => match v with
        | .d d => match Nat.blt xs.length lim with
          | true => .ret (.nx e (h.set n (.lst (xs ++ [d]))))
          | false => .stk
        | .r _ => .stk
      | _ => .stk
    | _ => .stk
  | .ext i x, e, h => match e.getD i none with
    | some (.r n) => match h[n]? with
      | some (.lst xs) => onE (evE gc cl x e h) fun v => match v with
        | .d (.lst ds) => match Nat.ble (xs.length + ds.length) lim with
          | true => .ret (.nx e (h.set n (.lst (xs ++ ds))))
          | false => .stk
        | _ => .stk
      | _ => .stk
    | _ => .stk
  | .sti i j x, e, h => onE (evE gc cl x e h) fun v => match e.getD i none with
    | some (.r n) => onE (evE gc cl j e h) fun w => match v, w, h[n]? with
      | .d d, .d (.int k), some (.lst xs) => match ixD xs.length k with
        | some m => .ret (.nx e (h.set n (.lst (xs.set m d))))
        | none => .stk
      | _, _, _ => .stk
    | _ => .stk
  | .ife c a b, e, h => onE (evT gc cl c e h) fun k => match k with
    | true => exSs gc cl wn a e h
    | false => exSs gc cl wn b e h
  | .whl c b, e, h => whlL (fun e h => evT gc cl c e h) (fun e h => exSs gc cl wn b e h) wn e h
  | .for_ tg it b, e, h => match isOwn it with
    | false => onE (evI gc cl it e h) fun xs => forL tg (fun e h => exSs gc cl wn b e h) xs e h
    | true => .stk
  | .forr tg i b, e, h => match e.getD i none with
    | some (.r n) => match h[n]? with
      | some (.lst ys) => forR tg n (fun e h => exSs gc cl wn b e h) ys.length 0 e h
      | _ => .stk
    | _ => .stk
  | .ret x, e, h => onE (evE gc cl x e h) fun v => .ret (.rt v h)
  | .retn, _, h => .ret (.rt (.d .non) h)
  | .rai c, _, _ => .ret (.ex c)
  | .exp x, e, h => onE (evE gc cl x e h) fun _ => .ret (.nx e h)
  | .fse s f r, e, h => onE (evR gc cl r e h) fun p => match e.getD s none with
    | some (.r n) => match setF p.2 n f p.1 with
      | some h1 => .ret (.nx e h1)
      | none => .stk
    | _ => .stk
  | .fmn c s j, e, h => match e.getD s none with
    | some (.r n) => match mkT h n c j with
      | some h1 => .ret (.nx e h1)
      | none => .stk
    | _ => .stk
  | .memo c j s k1 k2 body val, e, h => match h with
    | [] => match e.getD s none, e.getD k1 none, e.getD k2 none with
      | some (.d (.obj c' fs)), some (.d x1), some (.d x2) => match Nat.beq c' c with
        | true => match exSs gc cl wn body e [] with
          | .ret (.nx e1 h1) => match evE gc cl val e1 h1 with
            | .ret (.ok (.d v)) => match e1.getD s none, e1.getD k1 none, e1.getD k2 none with
              | some (.d o1), some (.d y1), some (.d y2) => match D.same (.obj c' fs) o1 && D.same x1 y1 && D.same x2 y2 && memB c j o1 (.tup [x1, x2]) v with
                | true => .ret (.rt (.d v) [])
                | false => .stk
              | _, _, _ => .stk
            | _ => .stk
          | _ => .stk
        | false => .stk
      | _, _, _ => .stk
    | _ :: _ => .stk
  | .exr r, e, h => onE (evR gc cl r e h) fun p => .ret (.nx e p.2)
  | .rtr r, e, h => onE (evR gc cl r e h) fun p => .ret (.rt p.1 p.2)
  | .dst i k v, e, h => onE (evE gc cl v e h) fun vv => match e.getD i none with
    | some (.r n) => onE (evE gc cl k e h) fun kk => match vv, kk, h[n]? with
      | .d vd, .d kd, some (.dct kvs) => match kkD kd kvs && Nat.blt kvs.length dlim with
        | true => .ret (.nx e (h.set n (.dct (putD kd vd kvs))))
        | false => .stk
      | _, _, _ => .stk
    | _ => .stk
  | .hap i x, e, h => match e.getD i none with
    | some (.r n) => match h[n]? with
      | some (.lsv (.r m :: _)) => match h[m]? with
        | some (.lst xs) => onE (evE gc cl x e h) fun v => match v with
          | .d d => match Nat.blt xs.length lim with
            | true => .ret (.nx e (h.set m (.lst (xs ++ [d]))))
            | false => .stk
          | .r _ => .stk
        | _ => .stk
      | _ => .stk
    | _ => .stk
  | .frz i, e, h => match e.getD i none with
    | some (.r n) => match h[n]? with
      | some (.dct kvs) => if i < e.length then .ret (.nx (e.set i (some (.d (.dct kvs)))) (h.set n .gone)) else .stk
      | some (.lst xs) => if i < e.length then .ret (.nx (e.set i (some (.d (.lst xs)))) (h.set n .gone)) else .stk
      | some (.lsv [.r m]) => match h[m]? with
        | some (.lst xs) => match Nat.beq m n with
          | false => .ret (.nx e ((h.set m .gone).set n (.lst [.lst xs])))
          | true => .stk
        | _ => .stk
      | _ => .stk
    | _ => .stk
  | .ifr c a b, e, h => onE (evTr gc cl c e h) fun p => match p.1 with
    | true => exSs gc cl wn a e p.2
    | false => exSs gc cl wn b e p.2
  | .fap s f x, e, h => match ownL h (e.getD s none) f with
    | some (k, xs) => onE (evE gc cl x e h) fun v => match v with
      | .d d => match Nat.blt xs.length lim with
        | true => .ret (.nx e (h.set k (.lst (xs ++ [d]))))
        | false => .stk
      | .r _ => .stk
    | none => .stk
  | .fpp s f, e, h => match ownL h (e.getD s none) f with
    | some (k, xs) => match xs.isEmpty with
      | false => .ret (.nx e (h.set k (.lst xs.dropLast)))
      | true => .stk
    | none => .stk
  | .any, _, _ => .stk
  | .brk, e, h => .ret (.bk e h)
  | .cnt, e, h => .ret (.ct e h)
def exSs [MF] (gc : Gc) (cl : Cl) (wn : Nat) : Ss → En → Hq → F Fl
  | .nil, e, h => .ret (.nx e h)
  | .cons s ss, e, h => onN (exS gc cl wn s e h) fun e1 h1 => exSs gc cl wn ss e1 h1
end
structure Fn where
  np : Nat
  ns : Nat
  body : Ss
def endD (r : Fl) : M D := match r with
  | .nx _ _ => ok .non
  | .rt v h => match rdV h v with
    | some d => ok d
    | none => .stk
  | .ex c => .ret (.ex c)
  | _ => .stk
def runF [MF] (gc : Gc) (cl : Cl) (wn : Nat) (f : Fn) (ds : List D) : M D :=
  match Nat.beq ds.length f.np with
  | true => (exSs gc cl wn f.body (ds.map (fun d => some (.d d)) ++ List.replicate (f.ns - f.np) none) []).bind endD
  | false => .stk
def endI (r : Fl) : M D := match r with
  | .nx _ h => match rdV h (.r 0) with
    | some d => ok d
    | none => .stk
  | .ex c => .ret (.ex c)
  | _ => .stk
def runI [MF] (gc : Gc) (cl : Cl) (wn : Nat) (c : Nat) (f : Fn) (ds : List D) : M D :=
  match Nat.beq (ds.length + 1) f.np with
  | true => (exSs gc cl wn f.body (some (.r 0) :: (ds.map (fun d => some (.d d)) ++ List.replicate (f.ns - f.np) none)) [.ins c [] 0]).bind endI
  | false => .stk
def endJ (r : Fl) : M D := match r with
  | .nx _ h => ok (encH h)
  | .ex c => .ret (.ex c)
  | _ => .stk
def runJ [MF] (gc : Gc) (cl : Cl) (wn : Nat) (c : Nat) (f : Fn) (ds : List D) : M D :=
  match Nat.beq (ds.length + 1) f.np with
  | true => (exSs gc cl wn f.body (some (.r 0) :: (ds.map (fun d => some (.d d)) ++ List.replicate (f.ns - f.np) none)) [.ins c [] 0]).bind endJ
  | false => .stk
inductive Pr where
  | rs (c : Tx) (n : Nat)
  | br (c : Tx) (b : Ss)
structure Mf where
  np : Nat
  ns : Nat
  pre : List Pr
  body : Ss
def endM (r : Fl) : M (Vv × Hq) := match r with
  | .nx _ h => ok (.d .non, h)
  | .rt v h => ok (v, h)
  | _ => .stk
def runP [MF] (gc : Gc) (cl : Cl) (wn : Nat) (body : Ss) : List Pr → En → Hq → M (Vv × Hq)
  | [], e, h => (exSs gc cl wn body e h).bind endM
  | .rs c n :: r, e, h => bnd (evT gc cl c e h) fun k => match k with
    | true => .ret (.ex n)
    | false => runP gc cl wn body r e h
  | .br c b :: r, e, h => bnd (evT gc cl c e h) fun k => match k with
    | true => (exSs gc cl wn b e h).bind fun q => match q with
      | .rt v h1 => ok (v, h1)
      | _ => .stk
    | false => runP gc cl wn body r e h
def runM [MF] (gc : Gc) (cl : Cl) (wn : Nat) (f : Mf) (ds : List D) : M D := match ds with
  | hd :: as => match decH hd, decVs as with
    | some h, some vs => match Nat.beq vs.length f.np with
      | true => bnd (runP gc cl wn f.body f.pre (vs.map some ++ List.replicate (f.ns - f.np) none) h) fun p => ok (encR p)
      | false => .stk
    | _, _ => .stk
  | [] => .stk
inductive Df where
  | fn (f : Fn)
  | ini (c : Nat) (f : Fn)
  | inm (c : Nat) (f : Fn)
  | mfn (f : Mf)
  | beg
  | drw
abbrev Tab := List (Nat × Df)
def drwD : List D → M D
  | [.opq 0, .opq 1, .int n] => if 0 < n ∧ n ≤ 1000000 then .draw n.toNat fun r => ok (.int r) else .stk
  | _ => .stk
def callF [MF] (gc : Gc) (T : Tab) (wn : Nat) : Nat → Cl
  | 0, _, _ => .stk
  | k + 1, f, ds => match T.lookup f with
    | some (.fn g) => runF gc (callF gc T wn k) wn g ds
    | some (.ini c g) => runI gc (callF gc T wn k) wn c g ds
    | some (.inm c g) => runJ gc (callF gc T wn k) wn c g ds
    | some (.mfn g) => runM gc (callF gc T wn k) wn g ds
    | some .drw => drwD ds
    | some .beg => match ds with
      | [] => ok (.opq 1)
      | _ => .stk
    | none => .stk
end Bk
namespace Bk
open PySem PySem.Spec PyProof.Rows L2
class PWc where
  P : Program
  w : World
abbrev EnE := NestedKey × Addr × V
def EnV : List EnE → List (NestedKey × Addr × Value) → Prop := Paired fun (p : EnE) (q : NestedKey × Addr × Value) => p.1 = q.1 ∧ p.2.1 = q.2.1 ∧ RelV p.2.2 q.2.2
def DicO (P : Program) (w : World) (a : Addr) (es : List EnE) : HO := .ext fun h => (a == sysModules) = false ∧ ∃ xs, EnV es xs ∧ ∃ o arr ep, h.get? a = some o ∧ o.ExactDict ∧ o.data = .dict arr ep ∧ arr.toList = xs.map (entryOfKey (nestedKind P w)) ∧ (xs.map (·.1)).Nodup
def lookE (es : List EnE) (k : NestedKey) : Option V := (es.find? fun x => decide (x.1 = k)).map (·.2.2)
def putE (es : List EnE) (k : NestedKey) (b : Addr) (v : V) : List EnE := if (lookE es k).isSome = true then es.map (fun x => if x.1 = k then (x.1, x.2.1, v) else x) else es ++ [(k, b, v)]
theorem lookE_put (es : List EnE) (k : NestedKey) (b : Addr) (v : V) : lookE (putE es k b v) k = some v := by
  unfold putE
  by_cases h : (lookE es k).isSome = true
  · rw [if_pos h]
    induction es with
    | nil => simp [lookE] at h
    | cons x r ih =>
      unfold lookE at h ih ⊢
      by_cases e : x.1 = k
      · rw [List.map_cons, if_pos e, List.find?_cons_of_pos (by simpa using e)]
        rfl
      · rw [List.map_cons, if_neg e, List.find?_cons_of_neg (by simpa using e)]
        rw [List.find?_cons_of_neg (by simpa using e)] at h
        exact ih h
  · rw [if_neg h]
    unfold lookE at h ⊢
    rw [List.find?_append]
    have hn : es.find? (fun x => decide (x.1 = k)) = none := by
      cases hq : es.find? (fun x => decide (x.1 = k)) with
      | none => rfl
      | some z => rw [hq] at h; simp at h
    rw [hn]
    simp
theorem putE_fst (es : List EnE) (k : NestedKey) (b : Addr) (v : V) (hn : (es.map (·.1)).Nodup) : ((putE es k b v).map (·.1)).Nodup := by
  unfold putE
  by_cases h : (lookE es k).isSome = true
  · rw [if_pos h, List.map_map]
    have : (es.map ((fun x : EnE => x.1) ∘ fun x => if x.1 = k then (x.1, x.2.1, v) else x)) = es.map (·.1) := List.map_congr_left fun x _ => by
      show (if x.1 = k then (x.1, x.2.1, v) else x).1 = x.1
      split <;> rfl
    rw [this]
    exact hn
  · rw [if_neg h, List.map_append]
    refine List.nodup_append.mpr ⟨hn, by simp, fun a ha c hc => ?_⟩
    have hc : c = k := by simpa using hc
    subst hc
    rintro rfl
    obtain ⟨x0, hx0, ex0⟩ := List.mem_map.mp ha
    apply h
    unfold lookE
    cases hq : es.find? (fun x => decide (x.1 = a)) with
    | some z => rfl
    | none => exact absurd (List.find?_eq_none.mp hq x0 hx0) (by simpa using ex0)
theorem putE_mem {es : List EnE} {k : NestedKey} {b : Addr} {v : V} {x : EnE} (h : x ∈ putE es k b v) : (x.1 = k ∧ x.2.2 = v ∧ (x.2.1 = b ∨ ∃ y ∈ es, y.1 = k ∧ y.2.1 = x.2.1)) ∨ x ∈ es := by
  unfold putE at h
  split at h
  · obtain ⟨y, hy, rfl⟩ := List.mem_map.mp h
    by_cases e : y.1 = k
    · rw [if_pos e]
      exact .inl ⟨e, rfl, .inr ⟨y, hy, e, rfl⟩⟩
    · rw [if_neg e]
      exact .inr hy
  · rcases List.mem_append.mp h with h | h
    · exact .inr h
    · rw [List.mem_singleton.mp h]
      exact .inl ⟨rfl, rfl, .inl rfl⟩
section
variable (K : PySem.W.Frag) (H : Hp)
mutual
def NIs : NestedKey → V → Prop
  | .none, v => v = .non
  | .num i, v => v = .int i
  | .text s, v => v = .str s
  | .tup ks, v => ∃ a vs, v = .ref a ∧ SqT K H a vs ∧ NAll ks vs
def NAll : List NestedKey → List V → Prop
  | [], vs => vs = []
  | k :: ks, vs => ∃ v r, vs = v :: r ∧ NIs k v ∧ NAll ks r
end
end
section
variable {X : Cx} {pins : List (Addr × Obj)} {σ : L2.St} {H : Hp} {s : Shared}
mutual
theorem NIs.ok (I : Inv X pins σ H s) : ∀ (k : NestedKey) (v : V) (u : Value), NIs X.K H k v → RelV v u → NestedIs s.heap k u
  | .none, v, u, q, r => by
    unfold NIs at q
    subst q
    cases (show u = Value.none from r)
    exact .none
  | .num i, v, u, q, r => by
    unfold NIs at q
    subst q
    obtain ⟨t, rfl⟩ := (show ∃ t, u = Value.int i t from r)
    exact .int _ _
  | .text x, v, u, q, r => by
    unfold NIs at q
    subst q
    obtain ⟨t, rfl⟩ := (show ∃ t, u = Value.str x t from r)
    exact .text _ _
  | .tup ks, v, u, q, r => by
    unfold NIs at q
    obtain ⟨a, vs, rfl, t, q⟩ := q
    cases (show u = Value.ref a from r)
    obtain ⟨its, rv, ⟨o, h1, h2, n, h3⟩, _⟩ := I.tuple t
    exact .tup h1 h2 h3 (NAll.ok I ks vs its q rv)
theorem NAll.ok (I : Inv X pins σ H s) : ∀ (ks : List NestedKey) (vs : List V) (us : List Value), NAll X.K H ks vs → Vals vs us → NestedAll s.heap ks us
  | [], vs, us, q, r => by
    unfold NAll at q
    subst q
    cases r
    exact .nil
  | k :: ks, vs, us, q, r => by
    unfold NAll at q
    obtain ⟨v, t, rfl, q1, q2⟩ := q
    cases r with
    | cons r1 r2 => exact .cons (NIs.ok I k v _ q1 r1) (NAll.ok I ks t _ q2 r2)
end
def KeysOk (K : PySem.W.Frag) (H : Hp) (es : List EnE) : Prop := ∀ x ∈ es, NIs K H x.1 (.ref x.2.1) ∧ x.1.depth ≤ 8
theorem EnV.keys {es : List EnE} {xs : List (NestedKey × Addr × Value)} (r : EnV es xs) {p : NestedKey → Addr → Prop} (h : ∀ x ∈ es, p x.1 x.2.1) : ∀ x ∈ xs, p x.1 x.2.1 := by
  unfold EnV at r
  induction r with
  | nil => exact fun x hx => nomatch hx
  | cons h1 h2 ih =>
    intro x hx
    rcases List.mem_cons.mp hx with rfl | hx
    · rw [← h1.1, ← h1.2.1]
      exact h _ List.mem_cons_self
    · exact ih (fun y hy => h y (List.mem_cons_of_mem _ hy)) x hx
theorem EnV.look {es : List EnE} {xs : List (NestedKey × Addr × Value)} (r : EnV es xs) (k : NestedKey) : RelO (lookE es k) ((atKey xs k).map (·.2)) := by
  unfold EnV at r
  induction r with
  | nil => exact True.intro
  | @cons p q ps qs h1 h2 ih =>
    unfold lookE atKey at ih ⊢
    by_cases e : p.1 = k
    · rw [List.find?_cons_of_pos (by simpa using e), List.find?_cons_of_pos (by rw [← h1.1]; simpa using e)]
      exact h1.2.2
    · rw [List.find?_cons_of_neg (by simpa using e), List.find?_cons_of_neg (by rw [← h1.1]; simpa using e)]
      exact ih
theorem EnV.fst {es : List EnE} {xs : List (NestedKey × Addr × Value)} (r : EnV es xs) : xs.map (·.1) = es.map (·.1) ∧ xs.length = es.length := by
  unfold EnV at r
  induction r with
  | nil => exact ⟨rfl, rfl⟩
  | cons h1 h2 ih => exact ⟨by rw [List.map_cons, List.map_cons, ih.1, h1.1], by rw [List.length_cons, List.length_cons, ih.2]⟩
theorem dic_of {a : Addr} {es : List EnE} (I : Inv X pins σ H s) (e : H a = some (DicO X.prog X.w a es)) (hk : KeysOk X.K H es) : (a == sysModules) = false ∧ ∃ xs, EnV es xs ∧ s.heap.DictOfH (nestedKind X.prog X.w) a xs := by
  obtain ⟨⟨h1, xs, h2, o, arr, ep, h3, h4, h5, h6, h7⟩, _⟩ := (show ObjOk X.prog X.w H s.heap a (DicO X.prog X.w a es) from I.hok a _ e)
  exact ⟨h1, xs, h2, o, arr, ep, h3, h4, h5, h6, h2.keys fun x hx => ⟨NIs.ok I _ _ _ (hk x hx).1 rfl, (hk x hx).2⟩, h7⟩
structure NGet (P : Program) (w : World) (K : PySem.W.Frag) (H : Hp) (a : Addr) (es : List EnE) (y : V) (k : NestedKey) : Prop where
  at_ : H a = some (DicO P w a es)
  keys : KeysOk K H es
  key : ∃ b, y = .ref b ∧ NIs K H k (.ref b) ∧ k.depth ≤ 8
section
variable {a : Addr} {es : List EnE} {y v : V} {k : NestedKey} {u r : Value} {A : Around} {E : Value → Shared → Prop}
theorem n_notIn {Q : Value → Shared → Prop} (hu : A.units + 9 < cLine) (I : Inv X pins σ H s) (g : NGet X.prog X.w X.K H a es y k) (ry : RelV y u) (h : ∀ s', Inv X pins σ H s' → Q (.bool (!(lookE es k).isSome)) s') :
    wpAny (model X.prog X.w) A (compareOp .NotIn u (.ref a)) Q E s := by
  obtain ⟨e, hk, b, rfl, hb, hd8⟩ := g
  cases (show u = Value.ref b from ry)
  obtain ⟨hd, xs, rel, dd⟩ := dic_of I e hk
  refine wpAny_notIn_heap (knd := nestedKind X.prog X.w) (k := k) (show A.in1.units + 8 < cLine from by show A.units + 1 + 8 < cLine; omega) ⟨NIs.ok I _ _ _ hb rfl, hd8⟩ hd dd ?_
  have q := (rel.look k).isSome_eq
  rw [Option.isSome_map] at q
  rw [← q]
  exact h _ (I.tok _)
theorem n_getItem {Q : Value → Shared → Prop} (hu : A.units + 9 < cLine) (I : Inv X pins σ H s) (g : NGet X.prog X.w X.K H a es y k) (hv : lookE es k = some v) (ry : RelV y u) (h : ∀ w' s', Inv X pins σ H s' → RelV v w' → Q w' s') :
    wpAny (model X.prog X.w) A (getItem (.ref a) u) Q E s := by
  obtain ⟨e, hk, b, rfl, hb, hd8⟩ := g
  cases (show u = Value.ref b from ry)
  obtain ⟨hd, xs, rel, dd⟩ := dic_of I e hk
  obtain ⟨w', hw, rw'⟩ := RelO.some_of (v := v) (o := (atKey xs k).map (·.2)) (by rw [← hv]; exact rel.look k)
  obtain ⟨p, hp, hp2⟩ := Option.map_eq_some_iff.mp hw
  refine wpAny_getItem_heap (knd := nestedKind X.prog X.w) (k := k) (show A.in1.units + 8 < cLine from by show A.units + 1 + 8 < cLine; omega) ⟨NIs.ok I _ _ _ hb rfl, hd8⟩ dd hp ?_
  rw [hp2]
  exact h w' _ (I.tok _) rw'
theorem EnV.put {es : List EnE} {xs : List (NestedKey × Addr × Value)} (rel : EnV es xs) {k : NestedKey} {b : Addr} {v : V} {r : Value} (rv : RelV v r) : EnV (putE es k b v) (storedH xs k b r) := by
  have e : (lookE es k).isSome = (atKey xs k).isSome := by
    have q := (rel.look k).isSome_eq
    rw [Option.isSome_map] at q
    exact q
  unfold putE storedH
  rw [e]
  by_cases q : (atKey xs k).isSome = true
  · rw [if_pos q, if_pos q]
    clear e q
    unfold EnV at rel ⊢
    induction rel with
    | nil => exact .nil
    | @cons p q ps qs h1 h2 ih =>
      rw [List.map_cons, List.map_cons]
      refine .cons ?_ ih
      unfold putAt
      by_cases e : p.1 = k
      · rw [if_pos e, if_pos (by rw [← h1.1]; exact e)]
        exact ⟨h1.1, h1.2.1, rv⟩
      · rw [if_neg e, if_neg (by rw [← h1.1]; exact e)]
        exact h1
  · rw [if_neg q, if_neg q]
    exact Paired.snoc rel ⟨rfl, rfl, rv⟩
theorem n_setItem {Q : Unit → Shared → Prop} (hu : A.units + 9 < cLine) (I : Inv X pins σ H s) (g : NGet X.prog X.w X.K H a es y k) (hl : es.length ≤ 1000000) (ry : RelV y u) (rv : RelV v r)
    (h : ∀ b s', y = .ref b → Inv X pins σ (upd H a (DicO X.prog X.w a (putE es k b v))) s' → Q () s') :
    wpAny (model X.prog X.w) A (setItem (.ref a) u r) Q E s := by
  obtain ⟨e, hk, b, rfl, hb, hd8⟩ := g
  cases (show u = Value.ref b from ry)
  obtain ⟨hd, xs, rel, dd⟩ := dic_of I e hk
  refine wpAny_setItem_heap (knd := nestedKind X.prog X.w) (k := k) (hsz := by rw [rel.fst.2, sizeLine_eq]; omega) (show A.in1.units + 8 < cLine from by show A.units + 1 + 8 < cLine; omega) ⟨NIs.ok I _ _ _ hb rfl, hd8⟩ dd fun h' dd' hs => h b _ rfl ?_
  obtain ⟨q, arr, ep, hq, h2, h3, h4, _, h5⟩ := dd'
  refine d_write I (by rw [e]; exact True.intro) hs ⟨q, hq⟩ ?_
  refine ⟨⟨hd, _, ?_, q, arr, ep, hq, h2, h3, h4, h5⟩, ⟨q, hq⟩, ?_⟩
  · exact rel.put rv
  · rintro h1 h2 ⟨g1, xs, g2, o, arr, ep, g3, g4⟩ hst
    exact ⟨g1, xs, g2, o, arr, ep, hst _ g3, g4⟩
end
end
def tNNot (P : Program) (w : World) (K : PySem.W.Frag) (ty td : TE) : TE := fun σ H Q => ty σ H fun y H1 => td σ H1 fun x H2 => ∃ a es k, x = .ref a ∧ NGet P w K H2 a es y k ∧ Q (.bl (!(lookE es k).isSome)) H2
def tNGet (P : Program) (w : World) (K : PySem.W.Frag) (td ty : TE) : TE := fun σ H Q => td σ H fun x H1 => ty σ H1 fun y H2 => ∃ a es k v, x = .ref a ∧ NGet P w K H2 a es y k ∧ lookE es k = some v ∧ Q v H2
def sNPut (P : Program) (w : World) (K : PySem.W.Frag) (td ty tv : TE) : TS := fun D σ H => tv σ H fun v H1 => td σ H1 fun x H2 => ty σ H2 fun y H3 => ∃ a es k, x = .ref a ∧ NGet P w K H3 a es y k ∧ es.length ≤ 1000000 ∧
  ∀ b, y = .ref b → D.nx σ (upd H3 a (DicO P w a (putE es k b v)))
def tNNew (P : Program) (w : World) : TE := fun _ H Q => ∀ p, H p = none → Q (.ref p) (upd H p (DicO P w p []))
section
variable {X : Cx} {o i e value : Expr} {pos pos' : Pos} {td ty tv : TE}
theorem pc_nnotin (hu : X.A.units + 9 < cLine) (hi : PE X i ty) (ho : PE X o td) : PC X .NotIn i o (tNNot X.prog X.w X.K ty td) := by
  refine ⟨fun pins s σ H Q I h => ?_⟩
  refine thn (hi.run pins s σ H _ I h) fun iv s1 ⟨y, H1, I1, ry, q1⟩ => thn (ho.run pins s1 σ H1 _ I1 q1) fun u s2 ⟨x, H2, I2, rx, a, es, k, ex, g, q2⟩ => ?_
  subst ex
  obtain rfl : u = Value.ref a := rx
  exact n_notIn hu I2 g ry fun s3 I3 => ⟨.bl (!(lookE es k).isSome), H2, I3, rfl, q2⟩
theorem pe_nget (hu : X.A.units + 9 < cLine) (ho : PE X o td) (hi : PE X i ty) (hs : NoSl i) : PE X (.Subscript o i pos) (tNGet X.prog X.w X.K td ty) := by
  refine ⟨fun pins s σ H Q I h => ?_⟩
  refine subD_of PySem.F.slot_dict_getitem.lookup hs (thn (ho.run pins s σ H _ I h) fun u s1 ⟨x, H1, I1, rx, q1⟩ => thn (hi.run pins s1 σ H1 _ I1 q1) fun iv s2 ⟨y, H2, I2, ry, a, es, k, v, ex, g, hv, q2⟩ => ?_)
  subst ex
  obtain rfl : u = Value.ref a := rx
  refine ⟨?_, n_getItem hu I2 g hv ry fun w' s3 I3 rw' => ⟨v, H2, I3, rw', q2⟩⟩
  obtain ⟨_, xs, _, dd⟩ := dic_of I2 g.at_ g.keys
  exact dd.typeIs
theorem ps_nput (hu : X.A.units + 9 < cLine) (ho : PE X o td) (hi : PE X i ty) (hv : PE X value tv) (hs : swapsWith value (some (.Subscript o i pos')) pos.line X.env = pure false) :
    PS X (.Assign [.Subscript o i pos'] value pos) (sNPut X.prog X.w X.K td ty tv) := by
  refine ⟨fun pins s σ H D I h => ?_⟩
  refine wpAny_Assign_Subscript (thn (hv.run pins s σ H _ I h) fun r s1 ⟨v, H1, I1, rv, q1⟩ => thn (ho.run pins s1 σ H1 _ I1 q1) fun u s2 ⟨x, H2, I2, rx, q2⟩ => thn (hi.run pins s2 σ H2 _ I2 q2) fun iv s3 ⟨y, H3, I3, ry, a, es, k, ex, g, hl, q3⟩ => ?_) hs
  subst ex
  obtain rfl : u = Value.ref a := rx
  exact n_setItem hu I3 g hl ry rv fun b s4 eb I4 => ⟨σ, _, I4, q3 b eb⟩
theorem dic_empty {P : Program} {w : World} {H : Hp} (h : Heap) (hb : sysModules < h.objs.size) : ObjOk P w H (h.push { cls := .type "dict", data := .dict #[] }) h.objs.size (DicO P w h.objs.size []) := by
  refine ⟨⟨beq_eq_false_iff_ne.mpr (Ne.symm (Nat.ne_of_lt hb)), [], .nil, _, #[], 0, Heap.get?_push_size _ rfl, ⟨rfl, rfl, rfl⟩, rfl, rfl, List.nodup_nil⟩, ⟨_, Heap.get?_push_size _ rfl⟩, ?_⟩
  rintro h1 h2 ⟨g1, xs, g2, o, arr, ep, g3, g4⟩ hst
  exact ⟨g1, xs, g2, o, arr, ep, hst _ g3, g4⟩
theorem pe_nnew : PE X (.Dict [] [] pos) (tNNew X.prog X.w) := ⟨fun pins s σ H Q I h =>
  wpAny_Dict_empty ⟨.ref s.heap.objs.size, _, I.laid (a := s.heap.objs.size) (o := DicO X.prog X.w s.heap.objs.size []) (t' := s.toks) (fun _ _ q => Heap.get?_push_of_some _ q) (Nat.le_refl _) (dic_empty s.heap I.big), rfl, h _ (I.hok.fresh (Nat.le_refl _))⟩⟩
end
theorem dic_code {P : Program} {w : World} {a : Addr} {es : List EnE} {q : Str} : DicO P w a es ≠ LamX.CodeO a q := by
  intro e
  unfold DicO LamX.CodeO at e
  have e := HO.ext.inj e
  let ob : Obj := { cls := .none, data := .fields #[.none, .str q 0] }
  let h : Heap := ⟨Array.replicate (a + 1) ob, {}⟩
  have hg : h.get? a = some ob := by
    show (match (Array.replicate (a + 1) ob)[a]? with | some ⟨_, _, .freed, _⟩ => none | o => o) = _
    rw [Array.getElem?_replicate, if_pos (Nat.lt_succ_self a)]
  have h1 := congrFun e h
  have h2 : (∃ (oc : Obj) (vs : Array Value) (t : Tok), h.get? a = some oc ∧ oc.data = .fields vs ∧ vs[1]? = some (.str q t)) := ⟨ob, _, 0, hg, rfl, rfl⟩
  rw [← h1] at h2
  obtain ⟨_, xs, _, o, arr, ep, g3, _, g5, _⟩ := h2
  rw [hg] at g3
  cases g3
  cases g5
abbrev EnT := NestedKey × V × V
def isTK : NestedKey → Bool
  | .tup _ => true
  | _ => false
def TnV : List EnT → List (NestedKey × Addr × Value) → Prop := Paired fun (p : EnT) (q : NestedKey × Addr × Value) => p.1 = q.1 ∧ p.2.1 = .ref q.2.1 ∧ RelV p.2.2 q.2.2
def InV : List EnT → List (Key × Value) → Prop := Paired fun (p : EnT) (q : Key × Value) => (∃ i, p.1 = .num i ∧ q.1 = Sum.inl i ∧ p.2.1 = .int i) ∧ RelV p.2.2 q.2
def DObj (P : Program) (w : World) (o : Obj) (es : List EnT) : Prop := o.ExactDict ∧ ∃ arr ep, o.data = .dict arr ep ∧
  ((∃ xs, TnV es xs ∧ arr.toList = xs.map (entryOfKey (nestedKind P w)) ∧ (xs.map (·.1)).Nodup) ∨
   ∃ vs, InV es vs ∧ KeysOf (mixKind P w) arr ∧ Pairs (mixKind P w) arr.toList vs ∧ (vs.map (·.1)).Nodup)
def DicX (P : Program) (w : World) (a : Addr) (o : Obj) (es : List EnT) : HO := .ext fun h => h.get? a = some o ∧ (a == sysModules) = false ∧ DObj P w o es
def lookT (es : List EnT) (k : NestedKey) : Option V := (es.find? fun x => decide (x.1 = k)).map (·.2.2)
def putT (es : List EnT) (k : NestedKey) (y v : V) : List EnT := if (lookT es k).isSome = true then es.map (fun x => if x.1 = k then (x.1, x.2.1, v) else x) else es ++ [(k, y, v)]
def KeysT (K : PySem.W.Frag) (H : Hp) (es : List EnT) : Prop := ∀ x ∈ es, NIs K H x.1 x.2.1 ∧ x.1.depth ≤ 8
theorem TnV.look {es : List EnT} {xs : List (NestedKey × Addr × Value)} (r : TnV es xs) (k : NestedKey) : RelO (lookT es k) ((atKey xs k).map (·.2)) := by
  unfold TnV at r
  induction r with
  | nil => exact True.intro
  | @cons p q ps qs h1 h2 ih =>
    unfold lookT atKey at ih ⊢
    by_cases e : p.1 = k
    · rw [List.find?_cons_of_pos (by simpa using e), List.find?_cons_of_pos (by rw [← h1.1]; simpa using e)]
      exact h1.2.2
    · rw [List.find?_cons_of_neg (by simpa using e), List.find?_cons_of_neg (by rw [← h1.1]; simpa using e)]
      exact ih
theorem InV.look {es : List EnT} {vs : List (Key × Value)} (r : InV es vs) (i : Int) : RelO (lookT es (.num i)) (valueAt vs (Sum.inl i)) := by
  unfold InV at r
  induction r with
  | nil => exact True.intro
  | @cons p q ps qs h1 h2 ih =>
    obtain ⟨⟨j, e1, e2, e3⟩, rv⟩ := h1
    unfold lookT valueAt at ih ⊢
    by_cases e : j = i
    · subst e
      rw [List.find?_cons_of_pos (by simp [e1]), List.find?_cons_of_pos (by simp [e2])]
      exact rv
    · rw [List.find?_cons_of_neg (by simp [e1, e]), List.find?_cons_of_neg (by simp [e2, e])]
      exact ih
theorem TnV.put {es : List EnT} {xs : List (NestedKey × Addr × Value)} (rel : TnV es xs) {k : NestedKey} {b : Addr} {v : V} {r : Value} (rv : RelV v r) : TnV (putT es k (.ref b) v) (storedH xs k b r) := by
  have e : (lookT es k).isSome = (atKey xs k).isSome := by
    have q := (rel.look k).isSome_eq
    rw [Option.isSome_map] at q
    exact q
  unfold putT storedH
  rw [e]
  by_cases q : (atKey xs k).isSome = true
  · rw [if_pos q, if_pos q]
    clear e q
    unfold TnV at rel ⊢
    induction rel with
    | nil => exact .nil
    | @cons p q ps qs h1 h2 ih =>
      rw [List.map_cons, List.map_cons]
      refine .cons ?_ ih
      unfold putAt
      by_cases e : p.1 = k
      · rw [if_pos e, if_pos (by rw [← h1.1]; exact e)]
        exact ⟨h1.1, h1.2.1, rv⟩
      · rw [if_neg e, if_neg (by rw [← h1.1]; exact e)]
        exact h1
  · rw [if_neg q, if_neg q]
    exact Paired.snoc rel ⟨rfl, rfl, rv⟩
theorem any_valueAt {vs : List (Key × Value)} (k : Key) : (vs.any fun kv => decide (kv.1 = k)) = (valueAt vs k).isSome := by
  induction vs with
  | nil => rfl
  | cons p r ih =>
    unfold valueAt at ih ⊢
    by_cases e : p.1 = k
    · rw [List.find?_cons_of_pos (by simpa using e)]
      simp [e]
    · rw [List.find?_cons_of_neg (by simpa using e), List.any_cons, ih]
      simp [e]
theorem InV.put {es : List EnT} {vs : List (Key × Value)} (rel : InV es vs) {i : Int} {v : V} {r : Value} (rv : RelV v r) : InV (putT es (.num i) (.int i) v) (stored vs (Sum.inl i) r) := by
  have e : (lookT es (.num i)).isSome = (valueAt vs (Sum.inl i)).isSome := (rel.look i).isSome_eq
  unfold putT stored
  rw [any_valueAt, e]
  by_cases q : (valueAt vs (Sum.inl i)).isSome = true
  · rw [if_pos q, if_pos q]
    clear e q
    unfold InV at rel ⊢
    induction rel with
    | nil => exact .nil
    | @cons p q ps qs h1 h2 ih =>
      rw [List.map_cons, List.map_cons]
      refine .cons ?_ ih
      obtain ⟨⟨j, e1, e2, e3⟩, rv'⟩ := h1
      by_cases e : j = i
      · subst e
        rw [if_pos e1, if_pos e2]
        exact ⟨⟨j, e1, e2, e3⟩, rv⟩
      · rw [if_neg (by rw [e1]; simp [e]), if_neg (by rw [e2]; simp [e])]
        exact ⟨⟨j, e1, e2, e3⟩, rv'⟩
  · rw [if_neg q, if_neg q]
    exact Paired.snoc rel ⟨⟨i, rfl, rfl, rfl⟩, rv⟩
theorem DObj.tup {P : Program} {w : World} {o : Obj} {es : List EnT} (d : DObj P w o es) (h : ∀ x ∈ es, isTK x.1 = true) : ∃ arr ep xs, o.data = .dict arr ep ∧ TnV es xs ∧ arr.toList = xs.map (entryOfKey (nestedKind P w)) ∧ (xs.map (·.1)).Nodup := by
  obtain ⟨_, arr, ep, e, q⟩ := d
  rcases q with ⟨xs, q1, q2, q3⟩ | ⟨vs, q1, q2, q3, q4⟩
  · exact ⟨arr, ep, xs, e, q1, q2, q3⟩
  · cases q1 with
    | nil =>
      refine ⟨arr, ep, [], e, .nil, ?_, List.nodup_nil⟩
      have := q3.length
      rw [List.length_nil] at this
      rw [List.length_eq_zero_iff.mp this]
      rfl
    | cons h1 h2 =>
      obtain ⟨⟨i, e1, _⟩, _⟩ := h1
      have := h _ List.mem_cons_self
      rw [e1] at this
      cases this
theorem DObj.int {P : Program} {w : World} {o : Obj} {es : List EnT} {K : PySem.W.Frag} {H : Hp} (d : DObj P w o es) (hk : KeysT K H es) (h : ∀ x ∈ es, isTK x.1 = false) : ∃ arr ep vs, o.data = .dict arr ep ∧ InV es vs ∧ KeysOf (mixKind P w) arr ∧ Pairs (mixKind P w) arr.toList vs ∧ (vs.map (·.1)).Nodup := by
  obtain ⟨_, arr, ep, e, q⟩ := d
  rcases q with ⟨xs, q1, q2, q3⟩ | ⟨vs, q1, q2, q3, q4⟩
  · cases q1 with
    | nil =>
      have : arr = #[] := by
        have : arr.toList = [] := q2
        exact Array.toList_eq_nil_iff.mp this
      subst this
      exact ⟨#[], ep, [], e, .nil, (Heap.DictOf.new (knd := mixKind P w) ⟨#[], {}⟩ |> fun ⟨o, es, ep, h1, h2, h3, h4, h5, h6⟩ => by
        rw [Heap.get?_push_size _ rfl] at h1
        cases h1
        cases h3
        exact h4), .nil, List.nodup_nil⟩
    | @cons p q ps qs h1 h2 =>
      have h3 := h p List.mem_cons_self
      have h4 := (hk p List.mem_cons_self).1
      rw [h1.2.1] at h4
      cases hp : p.1 with
      | tup ks => rw [hp] at h3; cases h3
      | none => rw [hp] at h4; unfold NIs at h4; cases h4
      | num i => rw [hp] at h4; unfold NIs at h4; cases h4
      | text i => rw [hp] at h4; unfold NIs at h4; cases h4
  · exact ⟨arr, ep, vs, e, q1, q2, q3, q4⟩
section
variable {X : Cx} {pins : List (Addr × Obj)} {σ : L2.St} {H : Hp} {s : Shared}
theorem dx_of {a : Addr} {o : Obj} {es : List EnT} (I : Inv X pins σ H s) (e : H a = some (DicX X.prog X.w a o es)) : s.heap.get? a = some o ∧ (a == sysModules) = false ∧ DObj X.prog X.w o es :=
  (show ObjOk X.prog X.w H s.heap a (DicX X.prog X.w a o es) from I.hok a _ e).1
theorem dx_new {P : Program} {w : World} {H' : Hp} {h' : Heap} {a : Addr} {o : Obj} {es : List EnT} (h1 : h'.get? a = some o) (h2 : (a == sysModules) = false) (h3 : DObj P w o es) : ObjOk P w H' h' a (DicX P w a o es) := by
  refine ⟨⟨h1, h2, h3⟩, ⟨o, h1⟩, ?_⟩
  rintro u v ⟨g1, g2, g3⟩ hst
  exact ⟨hst _ g1, g2, g3⟩
structure TGet (P : Program) (w : World) (K : PySem.W.Frag) (H : Hp) (a : Addr) (o : Obj) (es : List EnT) (y : V) (k : NestedKey) : Prop where
  at_ : H a = some (DicX P w a o es)
  keys : KeysT K H es
  key : NIs K H k y
  dep : k.depth ≤ 8
  knd : isTK k = true ∨ ∃ i, k = .num i
  mode : ∀ x ∈ es, isTK x.1 = isTK k
theorem TnV.keys {es : List EnT} {xs : List (NestedKey × Addr × Value)} (r : TnV es xs) {p : NestedKey → V → Prop} (h : ∀ x ∈ es, p x.1 x.2.1) : ∀ x ∈ xs, p x.1 (.ref x.2.1) := by
  unfold TnV at r
  induction r with
  | nil => exact fun x hx => nomatch hx
  | cons h1 h2 ih =>
    intro x hx
    rcases List.mem_cons.mp hx with rfl | hx
    · rw [← h1.1, ← h1.2.1]
      exact h _ List.mem_cons_self
    · exact ih (fun y hy => h y (List.mem_cons_of_mem _ hy)) x hx
theorem TnV.length {es : List EnT} {xs : List (NestedKey × Addr × Value)} (r : TnV es xs) : es.length = xs.length := Paired.length r
theorem InV.length {es : List EnT} {xs : List (Key × Value)} (r : InV es xs) : es.length = xs.length := Paired.length r
theorem TGet.cases {a : Addr} {o : Obj} {es : List EnT} {y : V} {k : NestedKey} (I : Inv X pins σ H s) (g : TGet X.prog X.w X.K H a o es y k) : (a == sysModules) = false ∧
    ((∃ b xs, y = .ref b ∧ (nestedKind X.prog X.w).is s.heap k b ∧ TnV es xs ∧ s.heap.DictOfH (nestedKind X.prog X.w) a xs) ∨ ∃ i vs, k = .num i ∧ y = .int i ∧ InV es vs ∧ s.heap.DictOf (mixKind X.prog X.w) a vs) := by
  obtain ⟨h1, h2, h3⟩ := dx_of I g.at_
  refine ⟨h2, ?_⟩
  rcases g.knd with hk | ⟨i, rfl⟩
  · obtain ⟨arr, ep, xs, e1, e2, e3, e4⟩ := h3.tup (fun x hx => (g.mode x hx).trans hk)
    cases k with
    | tup ks =>
      have gk := g.key
      unfold NIs at gk
      obtain ⟨b, vs, rfl, _⟩ := id gk
      refine .inl ⟨b, xs, rfl, ⟨NIs.ok I _ _ _ g.key rfl, g.dep⟩, e2, o, arr, ep, h1, h3.1, e1, e3, ?_, e4⟩
      intro x hx
      have q := e2.keys (p := fun k v => NIs X.K H k v ∧ k.depth ≤ 8) g.keys x hx
      exact ⟨NIs.ok I _ _ _ q.1 rfl, q.2⟩
    | none => cases hk
    | num i => cases hk
    | text i => cases hk
  · obtain ⟨arr, ep, vs, e1, e2, e3, e4, e5⟩ := h3.int g.keys (fun x hx => g.mode x hx)
    have gk := g.key
    unfold NIs at gk
    exact .inr ⟨i, vs, rfl, gk, e2, o, arr, ep, h1, h3.1, e1, e3, e4, e5⟩
theorem TGet.typeIs {a : Addr} {o : Obj} {es : List EnT} {y : V} {k : NestedKey} (I : Inv X pins σ H s) (g : TGet X.prog X.w X.K H a o es y k) : s.TypeIs (.ref a) "dict" := by
  obtain ⟨_, ⟨b, xs, _, _, _, dd⟩ | ⟨i, vs, _, _, _, dd⟩⟩ := g.cases I
  · exact dd.typeIs
  · exact dd.typeIs
section
variable {a : Addr} {o : Obj} {es : List EnT} {y v : V} {k : NestedKey} {u r : Value} {A : Around} {E : Value → Shared → Prop}
theorem t_in {Q : Value → Shared → Prop} (hu : A.units + 9 < cLine) (I : Inv X pins σ H s) (g : TGet X.prog X.w X.K H a o es y k) (ry : RelV y u) (h : ∀ s', Inv X pins σ H s' → Q (.bool (lookT es k).isSome) s') :
    wpAny (model X.prog X.w) A (compareOp .In u (.ref a)) Q E s := by
  obtain ⟨hd, ⟨b, xs, rfl, hb, rel, dd⟩ | ⟨i, vs, rfl, rfl, rel, dd⟩⟩ := g.cases I
  · cases (show u = Value.ref b from ry)
    refine wpAny_in_heap (knd := nestedKind X.prog X.w) (k := k) (show A.in1.units + 8 < cLine from by show A.units + 1 + 8 < cLine; omega) hb hd dd ?_
    have q := (rel.look k).isSome_eq
    rw [Option.isSome_map] at q
    rw [← q]
    exact h _ (I.tok _)
  · refine wpAny_in_of (kV_is (k := Sum.inl i) ry) hd dd.mapOf ?_
    rw [← (rel.look i).isSome_eq]
    exact h _ (I.tok _)
theorem t_notIn {Q : Value → Shared → Prop} (hu : A.units + 9 < cLine) (I : Inv X pins σ H s) (g : TGet X.prog X.w X.K H a o es y k) (ry : RelV y u) (h : ∀ s', Inv X pins σ H s' → Q (.bool (!(lookT es k).isSome)) s') :
    wpAny (model X.prog X.w) A (compareOp .NotIn u (.ref a)) Q E s := by
  obtain ⟨hd, ⟨b, xs, rfl, hb, rel, dd⟩ | ⟨i, vs, rfl, rfl, rel, dd⟩⟩ := g.cases I
  · cases (show u = Value.ref b from ry)
    refine wpAny_notIn_heap (knd := nestedKind X.prog X.w) (k := k) (show A.in1.units + 8 < cLine from by show A.units + 1 + 8 < cLine; omega) hb hd dd ?_
    have q := (rel.look k).isSome_eq
    rw [Option.isSome_map] at q
    rw [← q]
    exact h _ (I.tok _)
  · refine wpAny_notIn_of (kV_is (k := Sum.inl i) ry) hd dd.mapOf ?_
    rw [← (rel.look i).isSome_eq]
    exact h _ (I.tok _)
theorem t_getItem {Q : Value → Shared → Prop} (hu : A.units + 9 < cLine) (I : Inv X pins σ H s) (g : TGet X.prog X.w X.K H a o es y k) (hv : lookT es k = some v) (ry : RelV y u) (h : ∀ w' s', Inv X pins σ H s' → RelV v w' → Q w' s') :
    wpAny (model X.prog X.w) A (getItem (.ref a) u) Q E s := by
  obtain ⟨hd, ⟨b, xs, rfl, hb, rel, dd⟩ | ⟨i, vs, rfl, rfl, rel, dd⟩⟩ := g.cases I
  · cases (show u = Value.ref b from ry)
    obtain ⟨w', hw, rw'⟩ := RelO.some_of (v := v) (o := (atKey xs k).map (·.2)) (by rw [← hv]; exact rel.look k)
    obtain ⟨p, hp, hp2⟩ := Option.map_eq_some_iff.mp hw
    refine wpAny_getItem_heap (knd := nestedKind X.prog X.w) (k := k) (show A.in1.units + 8 < cLine from by show A.units + 1 + 8 < cLine; omega) hb dd hp ?_
    rw [hp2]
    exact h w' _ (I.tok _) rw'
  · obtain ⟨w', hw, rw'⟩ := RelO.some_of (v := v) (o := valueAt vs (Sum.inl i)) (by rw [← hv]; exact rel.look i)
    exact wpAny_getItem_of (kV_is (k := Sum.inl i) ry) dd.mapOf hw (h w' _ (I.tok _) rw')
theorem t_get2 {d : V} {Q : Value → Shared → Prop} (hu : A.units + 9 < cLine) (I : Inv X pins σ H s) (g : TGet X.prog X.w X.K H a o es y k) (ry : RelV y u) (rd : RelV d r) (h : ∀ w' s', Inv X pins σ H s' → RelV ((lookT es k).getD d) w' → Q w' s') :
    wpAny (model X.prog X.w) A (call (.builtin "dict.get") [.ref a, u, r]) Q E s := by
  obtain ⟨hd, ⟨b, xs, rfl, hb, rel, dd⟩ | ⟨i, vs, rfl, rfl, rel, dd⟩⟩ := g.cases I
  · cases (show u = Value.ref b from ry)
    exact call_meetsIn PySem.F.slot_dict_get dd.typeIs PySem.F.entry_dict_get (PySem.F.args_dict_get_3 _ _ _) (meetsH_dict_get_default (nestedKind X.prog X.w) a b hd r) ⟨show A.in1.units + 8 < cLine from by show A.units + 1 + 8 < cLine; omega, k, xs, hb, dd, h _ _ (I.tok _) ((rel.look k).getD rd)⟩
  · exact call_meetsIn PySem.F.slot_dict_get dd.typeIs PySem.F.entry_dict_get (PySem.F.args_dict_get_3 _ _ _) (meets_dict_get_default (mixKind X.prog X.w) a (kV_is (k := Sum.inl i) ry) hd r) ⟨_, dd.mapOf, h _ _ (I.tok _) ((rel.look i).getD rd)⟩
theorem t_setItem {Q : Unit → Shared → Prop} (hu : A.units + 9 < cLine) (I : Inv X pins σ H s) (g : TGet X.prog X.w X.K H a o es y k) (hl : es.length ≤ 10000000) (ry : RelV y u) (rv : RelV v r)
    (h : ∀ o' s', Inv X pins σ (upd H a (DicX X.prog X.w a o' (putT es k y v))) s' → Q () s') :
    wpAny (model X.prog X.w) A (setItem (.ref a) u r) Q E s := by
  obtain ⟨hd, ⟨b, xs, rfl, hb, rel, dd⟩ | ⟨i, vs, rfl, rfl, rel, dd⟩⟩ := g.cases I
  · cases (show u = Value.ref b from ry)
    refine wpAny_setItem_heap (knd := nestedKind X.prog X.w) (k := k) (hsz := by rw [← rel.length, sizeLine_eq]; omega) (show A.in1.units + 8 < cLine from by show A.units + 1 + 8 < cLine; omega) hb dd fun h' dd' hs => ?_
    obtain ⟨q, arr, ep, hq, h2, h3, h4, _, h5⟩ := dd'
    exact h q _ (d_write I (by rw [g.at_]; exact True.intro) hs ⟨q, hq⟩ (dx_new hq hd ⟨h2, arr, ep, h3, .inl ⟨_, rel.put rv, h4, h5⟩⟩))
  · refine wpAny_setItem_pairs (hsz := by rw [← rel.length, sizeLine_eq]; omega) (kV_is (k := Sum.inl i) ry) dd fun h' dd' hs => ?_
    obtain ⟨q, arr, ep, hq, h2, h3, h4, h5, h6⟩ := dd'
    exact h q _ (d_write I (by rw [g.at_]; exact True.intro) hs ⟨q, hq⟩ (dx_new hq hd ⟨h2, arr, ep, h3, .inr ⟨_, rel.put rv, h4, h5, h6⟩⟩))
end
end
def tXIn (P : Program) (w : World) (K : PySem.W.Frag) (ty td : TE) : TE := fun σ H Q => ty σ H fun y H1 => td σ H1 fun x H2 => ∃ a o es k, x = .ref a ∧ TGet P w K H2 a o es y k ∧ Q (.bl (lookT es k).isSome) H2
def tXNot (P : Program) (w : World) (K : PySem.W.Frag) (ty td : TE) : TE := fun σ H Q => ty σ H fun y H1 => td σ H1 fun x H2 => ∃ a o es k, x = .ref a ∧ TGet P w K H2 a o es y k ∧ Q (.bl (!(lookT es k).isSome)) H2
def tXGet (P : Program) (w : World) (K : PySem.W.Frag) (td ty : TE) : TE := fun σ H Q => td σ H fun x H1 => ty σ H1 fun y H2 => ∃ a o es k v, x = .ref a ∧ TGet P w K H2 a o es y k ∧ lookT es k = some v ∧ Q v H2
def tXGet2 (P : Program) (w : World) (K : PySem.W.Frag) (td ty tx : TE) : TE := fun σ H Q => td σ H fun x H1 => ∃ a, x = .ref a ∧ (∃ o es, H1 a = some (DicX P w a o es)) ∧ ty σ H1 fun y H2 => tx σ H2 fun z H3 => ∃ o es k, TGet P w K H3 a o es y k ∧ Q ((lookT es k).getD z) H3
def sXPut (P : Program) (w : World) (K : PySem.W.Frag) (td ty tv : TE) : TS := fun D σ H => tv σ H fun v H1 => td σ H1 fun x H2 => ty σ H2 fun y H3 => ∃ a o es k, x = .ref a ∧ TGet P w K H3 a o es y k ∧ es.length ≤ 10000000 ∧
  ∀ o', D.nx σ (upd H3 a (DicX P w a o' (putT es k y v)))
def tXNew (P : Program) (w : World) : TE := fun _ H Q => ∀ p o, H p = none → Q (.ref p) (upd H p (DicX P w p o []))
section
variable {X : Cx} {o i e f value : Expr} {pos pos' apos cpos : Pos} {td ty tv tx : TE}
theorem pc_xin (hu : X.A.units + 9 < cLine) (hi : PE X i ty) (ho : PE X o td) : PC X .In i o (tXIn X.prog X.w X.K ty td) := by
  refine ⟨fun pins s σ H Q I h => ?_⟩
  refine thn (hi.run pins s σ H _ I h) fun iv s1 ⟨y, H1, I1, ry, q1⟩ => thn (ho.run pins s1 σ H1 _ I1 q1) fun u s2 ⟨x, H2, I2, rx, a, od, es, k, ex, g, q2⟩ => ?_
  subst ex
  obtain rfl : u = Value.ref a := rx
  exact t_in hu I2 g ry fun s3 I3 => ⟨.bl (lookT es k).isSome, H2, I3, rfl, q2⟩
theorem pc_xnotin (hu : X.A.units + 9 < cLine) (hi : PE X i ty) (ho : PE X o td) : PC X .NotIn i o (tXNot X.prog X.w X.K ty td) := by
  refine ⟨fun pins s σ H Q I h => ?_⟩
  refine thn (hi.run pins s σ H _ I h) fun iv s1 ⟨y, H1, I1, ry, q1⟩ => thn (ho.run pins s1 σ H1 _ I1 q1) fun u s2 ⟨x, H2, I2, rx, a, od, es, k, ex, g, q2⟩ => ?_
  subst ex
  obtain rfl : u = Value.ref a := rx
  exact t_notIn hu I2 g ry fun s3 I3 => ⟨.bl (!(lookT es k).isSome), H2, I3, rfl, q2⟩
theorem pe_xget (hu : X.A.units + 9 < cLine) (ho : PE X o td) (hi : PE X i ty) (hs : NoSl i) : PE X (.Subscript o i pos) (tXGet X.prog X.w X.K td ty) := by
  refine ⟨fun pins s σ H Q I h => ?_⟩
  refine subD_of PySem.F.slot_dict_getitem.lookup hs (thn (ho.run pins s σ H _ I h) fun u s1 ⟨x, H1, I1, rx, q1⟩ => thn (hi.run pins s1 σ H1 _ I1 q1) fun iv s2 ⟨y, H2, I2, ry, a, od, es, k, v, ex, g, hv, q2⟩ => ?_)
  subst ex
  obtain rfl : u = Value.ref a := rx
  exact ⟨g.typeIs I2, t_getItem hu I2 g hv ry fun w' s3 I3 rw' => ⟨v, H2, I3, rw', q2⟩⟩
theorem dx_at {pins : List (Addr × Obj)} {σ : L2.St} {H : Hp} {s : Shared} {a : Addr} (I : Inv X pins σ H s) (d : ∃ o es, H a = some (DicX X.prog X.w a o es)) :
    s.TypeIs (.ref a) "dict" ∧ (∀ b, Value.ref a = .ref b → ∃ ob, s.heap.get? b = some ob ∧ ob.dict = none) ∧ (a == sysModules) = false := by
  obtain ⟨o, es, e⟩ := d
  obtain ⟨h1, h2, h3⟩ := dx_of I e
  exact ⟨⟨o, h1, h3.1.1⟩, fun b q => by cases q; exact ⟨o, h1, h3.1.2.1⟩, h2⟩
theorem pe_xget2 (hu : X.A.units + 9 < cLine) (ho : PE X o td) (he : PE X e ty) (hf : PE X f tx) (m : M2 X o "get" apos e f cpos) : PE X (.Call (.Attribute o "get" apos) [e, f] [] cpos) (tXGet2 X.prog X.w X.K td ty tx) := by
  refine ⟨fun pins s σ H Q I h => ?_⟩
  refine wpAny_Call_method m.base m.few m.line PySem.F.plainAttrs_dict PySem.F.slot_dict_get PySem.F.type_dict_get (thn (ho.run pins s σ H _ I h) fun u s1 ⟨x, H1, I1, rx, a, ex, d, q1⟩ => ?_)
  subst ex
  obtain rfl : u = Value.ref a := rx
  obtain ⟨t1, t2, _⟩ := dx_at I1 d
  refine ⟨t1, t2, ?_⟩
  rw [m.trees]
  refine Calls.callWith_builtin rfl (Calls.evalArgs_plain (Calls.spliced_cons (thn (he.run pins s1 σ H1 _ I1 q1) fun iv s2 ⟨y, H2, I2, ry, q2⟩ => Calls.spliced_cons (thn (hf.run pins s2 σ H2 _ I2 q2) fun jv s3 ⟨z, H3, I3, rz, od, es, k, g, q3⟩ => Calls.spliced_nil ?_))))
  exact t_get2 hu I3 g ry rz fun w' s3 I3 rw' => ⟨_, H3, I3, rw', q3⟩
theorem ps_xput (hu : X.A.units + 9 < cLine) (ho : PE X o td) (hi : PE X i ty) (hv : PE X value tv) (hs : swapsWith value (some (.Subscript o i pos')) pos.line X.env = pure false) :
    PS X (.Assign [.Subscript o i pos'] value pos) (sXPut X.prog X.w X.K td ty tv) := by
  refine ⟨fun pins s σ H D I h => ?_⟩
  refine wpAny_Assign_Subscript (thn (hv.run pins s σ H _ I h) fun r s1 ⟨v, H1, I1, rv, q1⟩ => thn (ho.run pins s1 σ H1 _ I1 q1) fun u s2 ⟨x, H2, I2, rx, q2⟩ => thn (hi.run pins s2 σ H2 _ I2 q2) fun iv s3 ⟨y, H3, I3, ry, a, od, es, k, ex, g, hl, q3⟩ => ?_) hs
  subst ex
  obtain rfl : u = Value.ref a := rx
  exact t_setItem hu I3 g hl ry rv fun o' s4 I4 => ⟨σ, _, I4, q3 o'⟩
theorem dx_empty {P : Program} {w : World} {H : Hp} (h : Heap) (hb : sysModules < h.objs.size) : ObjOk P w H (h.push { cls := .type "dict", data := .dict #[] }) h.objs.size (DicX P w h.objs.size { cls := .type "dict", data := .dict #[] } []) :=
  dx_new (Heap.get?_push_size _ rfl) (beq_eq_false_iff_ne.mpr (Ne.symm (Nat.ne_of_lt hb))) ⟨⟨rfl, rfl, rfl⟩, #[], 0, rfl, .inl ⟨[], .nil, rfl, List.nodup_nil⟩⟩
theorem pe_xnew : PE X (.Dict [] [] pos) (tXNew X.prog X.w) := ⟨fun pins s σ H Q I h =>
  wpAny_Dict_empty ⟨.ref s.heap.objs.size, _, I.laid (a := s.heap.objs.size) (o := DicX X.prog X.w s.heap.objs.size _ []) (t' := s.toks) (fun _ _ q => Heap.get?_push_of_some _ q) (Nat.le_refl _) (dx_empty s.heap I.big), rfl, h _ _ (I.hok.fresh (Nat.le_refl _))⟩⟩
end
theorem DObj.ent {P : Program} {w : World} {o : Obj} {es : List EnT} {arr : Array DictEntry} {ep : Nat} (d : DObj P w o es) (e : o.data = .dict arr ep) : arr.size = es.length ∧ ∀ (i : Nat) (x : EnT), es[i]? = some x → ∃ en, arr[i]? = some en ∧ RelV x.2.1 en.key := by
  obtain ⟨_, arr', ep', e', q⟩ := d
  rw [e] at e'
  cases e'
  rcases q with ⟨xs, q1, q2, q3⟩ | ⟨vs, q1, q2, q3, q4⟩
  · refine ⟨by rw [size_of_entries q2, q1.length], fun i x hx => ?_⟩
    obtain ⟨b, hb, e1, e2, _⟩ := paired_get q1 hx
    have q := entry_at q2 i
    rw [hb] at q
    exact ⟨_, q, by rw [e2]; rfl⟩
  · refine ⟨by rw [← Array.length_toList, q3.length, q1.length], fun i x hx => ?_⟩
    obtain ⟨b, hb, ⟨j, e1, e2, e3⟩, _⟩ := paired_get q1 hx
    have key : ∀ {l : List DictEntry} {m : List (Key × Value)}, Pairs (mixKind P w) l m → ∀ {i : Nat} {b : Key × Value}, m[i]? = some b → ∃ en, l[i]? = some en ∧ (mixKind P w).is b.1 en.key = true := by
      intro l m pr
      induction pr with
      | nil => intro i b hb; simp at hb
      | cons h1 h2 h3 ih =>
        intro i b hb
        cases i with
        | zero =>
          simp only [List.getElem?_cons_zero, Option.some.injEq] at hb
          subst hb
          exact ⟨_, rfl, h1⟩
        | succ i =>
          simp only [List.getElem?_cons_succ] at hb ⊢
          exact ih hb
    obtain ⟨en, h1, h2⟩ := key q3 hb
    refine ⟨en, by rw [← Array.getElem?_toList]; exact h1, ?_⟩
    rw [e2] at h2
    rw [e3]
    exact relV_key (k := Sum.inl j) h2
def Itx (P : Program) (w : World) (d : Addr) (o : Obj) (es : List EnT) : It :=
  ⟨fun i H => H d = some (DicX P w d o es) ∧ i < es.length, fun i H x H' => H' = H ∧ ∃ e, es[i]? = some e ∧ x = e.2.1, fun i H => H d = some (DicX P w d o es) ∧ es.length ≤ i⟩
theorem turn_keysX {P : Program} {w : World} {K : PySem.W.Frag} {tg : Expr} {d : Addr} {o : Obj} {arr : Array DictEntry} {ep : Nat} {es : List EnT} (it : Addr) (hod : o.data = .dict arr ep) : Turn P w K tg (Itx P w d o es) [it] it (fun i h => h.IsKeyIter it d i es.length ep) where
  mem := by simp
  obj := fun i h st b hb => by
    have e : b = it := by simpa using hb
    subst e
    obtain ⟨oi, e, c, dd⟩ := st
    exact ⟨oi, e, fun v z => by rw [dd] at z; cases z⟩
  keep := fun i h h' st k => st.at fun oi e => k it (by simp) oi e
  item := by
    intro X hP hw hK hc i pins s σ H E I hf st hg
    subst hP hw hK
    obtain ⟨hd, hi⟩ := hg
    obtain ⟨f0, f1, f2, f3, f4, f5⟩ := hf it (by simp)
    obtain ⟨hgd, hs, hx⟩ := dx_of I hd
    obtain ⟨hsz, ent⟩ := hx.ent hod
    obtain ⟨p, hp⟩ : ∃ p, es[i]? = some p := ⟨es[i], List.getElem?_eq_getElem hi⟩
    obtain ⟨en, hen, hkey⟩ := ent i p hp
    refine next_key_item st hgd hod hsz hen fun h' st' sb => ?_
    have I1 : Inv X pins σ H { s with heap := h' } := I.turned (t' := s.toks) (fun b ob hb e => (sb.2 b hb).trans e) f0 f1 f3 f4 f5
    obtain ⟨oi, e, c, dd⟩ := id st'
    exact ⟨en.key, rfl, go_of (s := { s with heap := h' }) e c dd (by decide) ⟨p.2.1, H, I1, hkey, ⟨rfl, p, hp, rfl⟩, st', fun b hb => (hf b hb).1⟩⟩
  done := by
    intro X hP hw hK hc i pins s σ H E I hf st hg
    subst hP hw hK
    obtain ⟨hd, hi⟩ := hg
    obtain ⟨f0, f1, f2, f3, f4, f5⟩ := hf it (by simp)
    obtain ⟨hgd, hs, hx⟩ := dx_of I hd
    obtain ⟨hsz, ent⟩ := hx.ent hod
    exact next_key_end (I.ok.hd hc) st hgd hod hsz hi fun h' eb => ⟨rfl, I.turned (t' := s.toks) (fun b ob hb e => eb b ob hb e) f0 f1 f3 f4 f5⟩
  self := fun A i s Q E st h => by
    refine wpAny_pyIter_slot st.typeIs F.slot_dict_keyiterator_iter (wpAny_call_entry F.slot_dict_keyiterator_iter st.typeIs F.entry_dict_keyiterator_iter ?_ (F.args_dict_keyiterator_iter_1 _))
    show wpAny _ _ (ret (.ref it)) _ _ s
    exact wpAny_pure ⟨_, rfl, "dict_keyiterator", _, st.typeIs, F.slot_dict_keyiterator_next.lookup, h⟩
def iXKeys (P : Program) (w : World) (td : TE) : TI := fun σ H R => td σ H fun v H1 => ∃ d o es, v = V.ref d ∧ H1 d = some (DicX P w d o es) ∧ R (Itx P w d o es) H1
theorem pi_xkeys {X : Cx} {tg e : Expr} {td : TE} (he : PE X e td) : PI X tg e (iXKeys X.prog X.w td) := by
  refine ⟨fun pins s σ H R I h => ?_⟩
  refine thn (he.run pins s σ H _ I h) fun u s1 ⟨x, H1, I1, rx, d, o, es, ex, hd, q⟩ => ?_
  subst ex
  obtain rfl : u = Value.ref d := rx
  obtain ⟨hgd, hs, hx⟩ := dx_of I1 hd
  obtain ⟨hx1, arr, ep, hdt, _⟩ := id hx
  obtain ⟨hsz, _⟩ := hx.ent hdt
  refine iter_keys hs hgd hx1 hdt (pi_one (tk := s1.toks) I1 _ (turn_keysX _ hdt) ⟨_, Heap.get?_push_size _ rfl, rfl, ?_⟩ q)
  rw [hsz] <;> rfl
theorem dicx_code {P : Program} {w : World} {a : Addr} {o : Obj} {es : List EnT} {q : Str} : DicX P w a o es ≠ LamX.CodeO a q := by
  intro e
  unfold DicX LamX.CodeO at e
  have e := HO.ext.inj e
  let ob : Obj := { cls := .none, data := .fields #[.none, .str q 0] }
  let h : Heap := ⟨Array.replicate (a + 1) ob, {}⟩
  have hg : h.get? a = some ob := by
    show (match (Array.replicate (a + 1) ob)[a]? with | some ⟨_, _, .freed, _⟩ => none | o => o) = _
    rw [Array.getElem?_replicate, if_pos (Nat.lt_succ_self a)]
  have h1 := congrFun e h
  have h2 : (∃ (oc : Obj) (vs : Array Value) (t : Tok), h.get? a = some oc ∧ oc.data = .fields vs ∧ vs[1]? = some (.str q t)) := ⟨ob, _, 0, hg, rfl, rfl⟩
  rw [← h1] at h2
  obtain ⟨g3, _, _, arr, ep, g5, _⟩ := h2
  rw [hg] at g3
  rw [← Option.some.inj g3] at g5
  cases g5
def tXOne (P : Program) (w : World) (K : PySem.W.Frag) (tk tv : TE) : TE := fun σ H Q => ∀ p o, H p = none → tk σ (upd H p (DicX P w p o [])) fun y H1 => tv σ H1 fun v H2 => H2 p = some (DicX P w p o []) ∧ ∃ k, NIs K H2 k y ∧ isTK k = true ∧ k.depth ≤ 8 ∧ ∀ o', Q (.ref p) (upd H2 p (DicX P w p o' [(k, y, v)]))
theorem pe_xone {X : Cx} {k v : Expr} {pos : Pos} {tk tv : TE} (hu : X.A.units + 9 < cLine) (hk : PE X k tk) (hv : PE X v tv) : PE X (.Dict [some k] [v] pos) (tXOne X.prog X.w X.K tk tv) := by
  refine ⟨fun pins s σ H Q I q => ?_⟩
  have hn := I.hok.fresh (Nat.le_refl s.heap.objs.size)
  have I1 := I.laid (a := s.heap.objs.size) (o := DicX X.prog X.w s.heap.objs.size { cls := .type "dict", data := .dict #[] } []) (h' := s.heap.push { cls := .type "dict", data := .dict #[] }) (t' := s.toks) (fun _ _ q => Heap.get?_push_of_some _ q) (Nat.le_refl _) (dx_empty s.heap I.big)
  rw [arm_eval_Dict, zip_pairTrees [some k] [v] X.env pos rfl rfl, dictDisplay_pairs _ (by simp [pairTrees]) (by simp [pairTrees])]
  refine wpAny_bind (wpAny_standAt (wpAny_bind (wpAny_subDictH (knd := nestedKind X.prog X.w) (Q := fun d s' => wpAny (model X.prog X.w) X.A (pure (Value.ref d)) _ X.xe s') (show X.A.units + 8 < cLine from by omega) (by simp [pairTrees]) ?_)))
  refine pairTrees_cons_walk (thn (hk.run pins _ σ _ _ I1 (q _ _ hn)) fun u s1 ⟨y, H1, I2, ry, q1⟩ => thn (hv.run pins _ σ _ _ I2 q1) fun r s2 ⟨v, H2, I3, rv, e, kk, k1, k2, k3, q2⟩ => pairTrees_nil_walk ?_)
  obtain ⟨h1, h2, h3⟩ := dx_of I3 e
  obtain ⟨arr, ep, xs, e1, e2, e3, e4⟩ := h3.tup (fun x hx => nomatch hx)
  cases e2
  cases kk with
  | tup ks =>
    have gk := k1
    unfold NIs at gk
    obtain ⟨b, vs, rfl, _⟩ := id gk
    cases (show u = Value.ref b from ry)
    refine ⟨[(.tup ks, b, r)], ⟨rfl, rfl, ⟨NIs.ok I3 _ _ _ k1 rfl, k3⟩, True.intro⟩, ⟨_, arr, ep, h1, h3.1, e1, e3, (fun x hx => nomatch hx), List.nodup_nil⟩, fun h' tk dd' hs => wpAny_pure ?_⟩
    obtain ⟨q, arr', ep', hq, g2, g3, g4, _, g5⟩ := dd'
    refine ⟨.ref s.heap.objs.size, _, ?_, rfl, q2 q⟩
    refine d_write I3 (by rw [e]; exact True.intro) hs ⟨q, hq⟩ (dx_new hq h2 ⟨g2, arr', ep', g3, .inl ⟨_, ?_, g4, g5⟩⟩)
    exact .cons ⟨rfl, rfl, rv⟩ .nil
  | none => cases k2
  | num i => cases k2
  | text i => cases k2
end Bk
namespace Bk
open PySem PySem.Spec PyProof.Rows L2
variable [MF] [PWc]
structure Sg where
  as : List Addr
  fz : Addr → Prop
  sc : Addr
  tw : Addr → Addr → Prop
  mm : Addr → Nat → D → Prop
def cnm : Nat → Str
  | 0 => "Machine" | 1 => "Counter" | 2 => "Seer" | 3 => "Writer"
  | _ => ""
def fln : Nat → Str
  | 0 => "way" | 1 => "need" | 2 => "sight" | 3 => "is_counted" | 4 => "machine" | 5 => "stands" | 6 => "rows" | 7 => "letters" | 8 => "last"
  | _ => ""
def tnm : Nat → Nat → Str
  | 0, 0 => "sure" | 0, 1 => "steps" | 1, 0 => "steps"
  | _, _ => ""
def clN (c : Nat) : List Str := (cf c).map fln ++ (List.range (cm c)).map (tnm c)
def ClsK (K : PySem.W.Frag) (c : Nat) : Prop := Cls K (He.ga K (cnm c)) ∧ ∀ x ∈ clN c, NoAttr K (He.ga K (cnm c)) x
structure FlOk (K : PySem.W.Frag) (c : Nat) (fl : List (Str × V)) (vs : List V) (ts : List Addr) : Prop where
  len : fl.length ≤ vs.length + ts.length
  fld : ∀ (i f : Nat) v, (cf c)[i]? = some f → vs[i]? = some v → fl.lookup (fln f) = some v
  tbl : ∀ (j : Nat) d, ts[j]? = some d → fl.lookup (tnm c j) = some (.ref d)
  no : ∀ x, x ∉ clN c → fl.lookup x = none
  cl : ClsK K c
mutual
def nk : D → NestedKey
  | .int i => .num i
  | .str s => .text ⟨s.toArray⟩
  | .tup xs => .tup (nks xs)
  | _ => .none
def nks : List D → List NestedKey
  | [] => []
  | x :: xs => nk x :: nks xs
end
mutual
theorem nk_depth : ∀ (n : Nat) (d : D), D.keyD n d = true → (nk d).depth ≤ n
  | n, .non, _ => by simp [nk, NestedKey.depth]
  | n, .bl b, h => by cases n <;> simp [D.keyD] at h
  | n, .int i, _ => by simp [nk, NestedKey.depth]
  | n, .str s, _ => by simp [nk, NestedKey.depth]
  | 0, .tup xs, h => by simp [D.keyD] at h
  | n + 1, .tup xs, h => by
    have := nks_depth n xs (by simpa [D.keyD] using h)
    simp only [nk, NestedKey.depth]
    omega
  | n, .lst xs, h => by cases n <;> simp [D.keyD] at h
  | n, .opq k, h => by cases n <;> simp [D.keyD] at h
  | n, .obj c k, h => by cases n <;> simp [D.keyD] at h
  | n, .dct k, h => by cases n <;> simp [D.keyD] at h
theorem nks_depth : ∀ (n : Nat) (ds : List D), D.keyDs n ds = true → NestedKey.depthAll (nks ds) ≤ n
  | n, [], _ => by simp [nks, NestedKey.depthAll]
  | n, d :: ds, h => by
    simp only [D.keyDs, Bool.and_eq_true] at h
    have h1 := nk_depth n d h.1
    have h2 := nks_depth n ds h.2
    simp only [nks, NestedKey.depthAll]
    omega
end
theorem arr_inj {s t : List Nat} (h : (⟨s.toArray⟩ : Str) = ⟨t.toArray⟩) : s = t := by
  have := congrArg (fun z : Str => z.cps.toList) h
  simpa using this
mutual
theorem nk_inj : ∀ (n m : Nat) (a b : D), D.keyD n a = true → D.keyD m b = true → nk a = nk b → a = b
  | n, m, .non, b, _, hb, e => by
    cases b with
    | non => rfl
    | int j => simp [nk] at e
    | str t => simp [nk] at e
    | tup ys => simp [nk] at e
    | bl x => cases m <;> simp [D.keyD] at hb
    | lst x => cases m <;> simp [D.keyD] at hb
    | opq x => cases m <;> simp [D.keyD] at hb
    | obj x y => cases m <;> simp [D.keyD] at hb
    | dct x => cases m <;> simp [D.keyD] at hb
  | n, m, .int i, b, _, hb, e => by
    cases b with
    | int j => simp only [nk, NestedKey.num.injEq] at e; rw [e]
    | _ => simp [nk] at e
  | n, m, .str s, b, _, hb, e => by
    cases b with
    | str t => simp only [nk, NestedKey.text.injEq] at e; rw [arr_inj e]
    | _ => simp [nk] at e
  | n, m, .tup xs, b, ha, hb, e => by
    cases b with
    | tup ys =>
      simp only [nk, NestedKey.tup.injEq] at e
      cases n with
      | zero => simp [D.keyD] at ha
      | succ n =>
        cases m with
        | zero => simp [D.keyD] at hb
        | succ m => rw [nks_inj n m xs ys (by simpa [D.keyD] using ha) (by simpa [D.keyD] using hb) e]
    | _ => simp [nk] at e
  | n, m, .bl x, b, h, _, _ => by cases n <;> simp [D.keyD] at h
  | n, m, .lst xs, b, h, _, _ => by cases n <;> simp [D.keyD] at h
  | n, m, .opq k, b, h, _, _ => by cases n <;> simp [D.keyD] at h
  | n, m, .obj c k, b, h, _, _ => by cases n <;> simp [D.keyD] at h
  | n, m, .dct k, b, h, _, _ => by cases n <;> simp [D.keyD] at h
theorem nks_inj : ∀ (n m : Nat) (a b : List D), D.keyDs n a = true → D.keyDs m b = true → nks a = nks b → a = b
  | n, m, [], [], _, _, _ => rfl
  | n, m, [], _ :: _, _, _, e => by simp [nks] at e
  | n, m, _ :: _, [], _, _, e => by simp [nks] at e
  | n, m, x :: xs, y :: ys, ha, hb, e => by
    simp only [nks, List.cons.injEq] at e
    simp only [D.keyDs, Bool.and_eq_true] at ha hb
    rw [nk_inj n m x y ha.1 hb.1 e.1, nks_inj n m xs ys ha.2 hb.2 e.2]
end
def LN : List Str := ["law", "_law_orders", "_law_refused", "_law_holds", "_law_all"]
def tdf (K : PySem.W.Frag) : List Str := LN.filter fun x => match PySem.W.nsIn K mainGlobals x with
  | some (some (.ref _)) => true
  | _ => false
def lamQ (x : Str) : Str := x ++ ".<locals>." ++ "<lambda>"
def tbl (K : PySem.W.Frag) : List (Addr × Str) := (tdf K).map fun x => ((He.cT K (x, none)).2, lamQ x)
def tbU (K : PySem.W.Frag) : Bool := (tbl K).all fun p => (tbl K).all fun q => decide (p.1 ≠ q.1) || decide (p.2 = q.2)
theorem tbU_ok {K : PySem.W.Frag} (h : tbU K = true) : ∀ p ∈ tbl K, ∀ q ∈ tbl K, p.1 = q.1 → p.2 = q.2 := fun p hp q hq e => by
  have := List.all_eq_true.mp (List.all_eq_true.mp h p hp) q hq
  rw [Bool.or_eq_true, decide_eq_true_iff, decide_eq_true_iff] at this
  exact this.resolve_left (fun n => n e)
def Sg.twA (S : Sg) (a : Addr) : Prop := ∃ t b, S.tw t b ∧ (a = t ∨ a = b)
def Sg.mmA (S : Sg) (a : Addr) : Prop := ∃ j o, S.mm a j o
def flatE : List EnT → List V
  | [] => []
  | e :: r => e.2.1 :: e.2.2 :: flatE r
def isKD : D → Bool
  | .tup _ => true
  | .int _ => true
  | _ => false
def DKeys (kvs : List D) (es : List EnT) : Prop := (keysD kvs).map nk = es.map (·.1) ∧ (∀ k ∈ keysD kvs, D.keyD 8 k = true ∧ isKD k = true) ∧ (∀ k ∈ keysD kvs, ∀ k' ∈ keysD kvs, isTup k = isTup k') ∧ (es.map (·.1)).Nodup
section
variable (K : PySem.W.Frag) (S : Sg) (H : Hp)
mutual
def RV : D → V → Prop
  | .non, v => v = .non
  | .bl b, v => v = .bl b
  | .int i, v => v = .int i
  | .str s, v => v = .str ⟨s.toArray⟩
  | .tup ds, v => ∃ a vs, v = .ref a ∧ SqT K H a vs ∧ RVs ds vs
  | .lst ds, v => ∃ a vs, v = .ref a ∧ H a = some (.lst vs) ∧ S.fz a ∧ RVs ds vs
  | .opq 0, v => v = .ref S.sc
  | .opq 1, v => ∃ t b, S.tw t b ∧ v = .ref t
  | .opq (_ + 2), _ => False
  | .obj c fs, v => ∃ a dx fl vs ts, v = .ref a ∧ H a = some (.ins (He.ga K (cnm c)) dx fl) ∧ S.fz a ∧ fs.length = (cf c).length ∧ List.length ts = cm c ∧ FlOk K c fl vs ts ∧ (∀ (j : Nat) d, ts[j]? = some d → S.mm d (8 * c + j) (.obj c fs)) ∧ RVs fs vs
  | .dct kvs, v => ∃ a o es vs, v = .ref a ∧ H a = some (DicX PWc.P PWc.w a o es) ∧ S.fz a ∧ DKeys kvs es ∧ vs = flatE es ∧ RVs kvs vs
def RVs : List D → List V → Prop
  | [], vs => vs = []
  | d :: ds, vs => ∃ v r, vs = v :: r ∧ RV d v ∧ RVs ds r
end
def RestOk (rs : List (Key × V)) : Prop := (rs.map (·.1)).Nodup ∧ ∀ p ∈ rs, ∃ (i : Nat) (n : Int), p = (Sum.inl (i : Int), V.int n) ∧ i < 63
def TownOk (t b : Addr) : Prop := ∃ (c : Nat) (rs : List (Key × V)), H t = some (.dK [(Sum.inr (Str.ofString "count"), .int c), (Sum.inr (Str.ofString "rests"), .ref b)]) ∧ H b = some (.dK rs) ∧ RestOk rs
def ScrOk (a : Addr) : Prop := ∃ ns : List Int, ns.length ≤ 63 ∧ ((∃ o, H a = some (.frz o (.lst (ns.map V.int)))) ∨ (H a = some (.lst (ns.map V.int)) ∧ S.fz a) ∨
  ∃ (o : Obj) (its : Array Value) (n : Nat), K.lookup a = some o ∧ o.cls = .type "list" ∧ o.dict = none ∧ o.data = .seq its n ∧ its.size ≤ sizeLine ∧ Vals (ns.map V.int) its.toList)
def RW : Vv → V → Prop
  | .d x, v => RV K S H x v
  | .r n, v => ∃ a, S.as[n]? = some a ∧ v = .ref a
def RWs : List Vv → List V → Prop
  | [], vs => vs = []
  | d :: ds, vs => ∃ v r, vs = v :: r ∧ RW K S H d v ∧ RWs ds r
def RO : Ob → Addr → Prop
  | .lst ds, a => ∃ vs, H a = some (.lst vs) ∧ RVs K S H ds vs
  | .ins c fs m, a => ∃ dx fl vs ts, H a = some (.ins (He.ga K (cnm c)) dx fl) ∧ RWs K S H fs vs ∧ List.length ts = m ∧ FlOk K c fl vs ts ∧ fs.length ≤ (cf c).length ∧ m ≤ cm c ∧ ∀ (j : Nat) d, ts[j]? = some d → ∃ ds, dats0 fs = some ds ∧ S.mm d (8 * c + j) (.obj c ds)
  | .dct kvs, a => ∃ o es, H a = some (DicX PWc.P PWc.w a o es) ∧ DKeys kvs es ∧ RVs K S H kvs (flatE es)
  | .lsv ws, a => ∃ vs, H a = some (.lst vs) ∧ RWs K S H ws vs
  | .gone, a => (∃ vs, H a = some (.lst vs)) ∨ ∃ o es, H a = some (DicX PWc.P PWc.w a o es)
def MemOk (d : Addr) (j : Nat) (o : D) : Prop := ∃ es : List EnE, H d = some (DicO PWc.P PWc.w d es) ∧ (es.map (·.1)).Nodup ∧
  ∀ x ∈ es, ∃ kd vd, nk kd = x.1 ∧ isTup kd = true ∧ D.keyD 8 kd = true ∧ RV K S H kd (.ref x.2.1) ∧ isScal vd = true ∧ RV K S H vd x.2.2 ∧ MF.f j o kd = some vd
def NT (o : HO) : Prop := ∀ ps, o ≠ .tbl ps
structure RelH (h : Hq) : Prop where
  len : S.as.length = h.length
  nd : S.as.Nodup
  obj : ∀ (n : Nat) o, h[n]? = some o → ∃ a, S.as[n]? = some a ∧ RO K S H o a
  sep : ∀ (n : Nat) a o, S.as[n]? = some a → h[n]? = some o → o.live = true → ¬ S.fz a
  scr : ScrOk K S H S.sc
  twn : ∀ t b, S.tw t b → TownOk H t b
  fzs : ∀ a, S.fz a → ∃ o, H a = some o ∧ NT o
  tab : LamX.Tabs (tbl K) H
  mem : ∀ d j o, S.mm d j o → MemOk K S H d j o
  mmu : ∀ d j o j' o', S.mm d j o → S.mm d j' o' → j = j' ∧ o = o'
  omm : ∀ a, a ∈ S.as ∨ S.fz a → ¬ S.mmA a
structure RelE (e : En) (σ : L2.St) : Prop where
  len : e.length = σ.length
  sl : ∀ (i : Nat) x, e[i]? = some (some x) → ∃ v, σ[i]? = some (some v) ∧ RW K S H x v
end
structure Ext (S : Sg) (H : Hp) (S' : Sg) (H' : Hp) : Prop where
  as : ∃ ns, S'.as = S.as ++ ns
  kp : ∀ a o, H a = some o → NT o → ∃ o', H' a = some o' ∧ NT o'
  na : ∀ a o, H a = some o → NT o → a ∈ S'.as → a ∈ S.as
  fz : ∀ a, S.fz a → S'.fz a
  nf : ∀ a o, H a = some o → NT o → S'.fz a → S.fz a ∨ a ∈ S.as
  fr : ∀ a o, H a = some o → NT o → a ∉ S.as → ¬ S.twA a → ¬ S.mmA a → H' a = some o
  sc : S'.sc = S.sc
  tw : ∀ t b, S.tw t b → S'.tw t b
  nt : ∀ a o, H a = some o → NT o → S'.twA a → S.twA a
  mm : ∀ d j o, S.mm d j o → S'.mm d j o
  nm : ∀ a o, H a = some o → NT o → S'.mmA a → S.mmA a
  fk : ∀ a o, H a = some o → NT o → S.fz a → ¬ S.twA a → ¬ S.mmA a → H' a = some o
theorem nt_lst {vs : List V} : NT (.lst vs) := fun _ z => nomatch z
theorem nt_dK {vs : List (Key × V)} : NT (.dK vs) := fun _ z => nomatch z
theorem nt_ins {C dx : Addr} {fs : List (Str × V)} : NT (.ins C dx fs) := fun _ z => nomatch z
theorem nt_dic {P : Program} {w : World} {a : Addr} {es : List EnE} : NT (DicO P w a es) := fun _ z => nomatch z
theorem nt_dicx {P : Program} {w : World} {a : Addr} {o : Obj} {es : List EnT} : NT (DicX P w a o es) := fun _ z => nomatch z
theorem Ext.refl (S : Sg) (H : Hp) : Ext S H S H := ⟨⟨[], by simp⟩, fun _ o h n => ⟨o, h, n⟩, fun _ _ _ _ h => h, fun _ h => h, fun _ _ _ _ h => .inl h, fun _ _ h _ _ _ _ => h, rfl, fun _ _ h => h, fun _ _ _ _ h => h, fun _ _ _ h => h, fun _ _ _ _ h => h, fun _ _ h _ _ _ _ => h⟩
theorem Ext.trans {S S1 S2 : Sg} {H H1 H2 : Hp} (x : Ext S H S1 H1) (y : Ext S1 H1 S2 H2) : Ext S H S2 H2 where
  as := by
    obtain ⟨n1, e1⟩ := x.as
    obtain ⟨n2, e2⟩ := y.as
    exact ⟨n1 ++ n2, by rw [e2, e1, List.append_assoc]⟩
  kp := fun a o h n => by
    obtain ⟨o1, h1, n1⟩ := x.kp a o h n
    exact y.kp a o1 h1 n1
  na := fun a o h n m => by
    obtain ⟨o1, h1, n1⟩ := x.kp a o h n
    exact x.na a o h n (y.na a o1 h1 n1 m)
  fz := fun a h => y.fz a (x.fz a h)
  nf := fun a o h n m => by
    obtain ⟨o1, h1, n1⟩ := x.kp a o h n
    rcases y.nf a o1 h1 n1 m with m | m
    · exact x.nf a o h n m
    · exact .inr (x.na a o h n m)
  fk := fun a o h n f h2 h3 => y.fk a o (x.fk a o h n f h2 h3) n (x.fz a f) (fun m => h2 (x.nt a o h n m)) (fun m => h3 (x.nm a o h n m))
  fr := fun a o h n h1 h2 h3 => y.fr a o (x.fr a o h n h1 h2 h3) n (fun m => h1 (x.na a o h n m)) (fun m => h2 (x.nt a o h n m)) (fun m => h3 (x.nm a o h n m))
  sc := y.sc.trans x.sc
  tw := fun t b h => y.tw t b (x.tw t b h)
  nt := fun a o h n m => by
    obtain ⟨o1, h1, n1⟩ := x.kp a o h n
    exact x.nt a o h n (y.nt a o1 h1 n1 m)
  mm := fun d j o h => y.mm d j o (x.mm d j o h)
  nm := fun a o h n m => by
    obtain ⟨o1, h1, n1⟩ := x.kp a o h n
    exact x.nm a o h n (y.nm a o1 h1 n1 m)
section
variable {K : PySem.W.Frag} {S S' : Sg} {H H' : Hp} {h : Hq}
theorem RelH.inAs (r : RelH K S H h) {a : Addr} (m : a ∈ S.as) : (∃ vs, H a = some (.lst vs)) ∨ (∃ C dx fl, H a = some (.ins C dx fl)) ∨ ∃ o es, H a = some (DicX PWc.P PWc.w a o es) := by
  obtain ⟨n, hn, e⟩ := List.getElem_of_mem m
  have hn' : n < h.length := by rw [← r.len]; exact hn
  obtain ⟨b, e1, q⟩ := r.obj n h[n] (List.getElem?_eq_getElem hn')
  rw [List.getElem?_eq_getElem hn] at e1
  have : b = a := by rw [← e]; exact (Option.some.inj e1).symm
  subst this
  cases hq : h[n] with
  | lst ds =>
    rw [hq] at q
    obtain ⟨vs, q, _⟩ := q
    exact .inl ⟨vs, q⟩
  | ins c fs m =>
    rw [hq] at q
    obtain ⟨dx, fl, vs, ts, q, _⟩ := q
    exact .inr (.inl ⟨_, _, _, q⟩)
  | dct kvs =>
    rw [hq] at q
    obtain ⟨o, es, q, _⟩ := q
    exact .inr (.inr ⟨_, _, q⟩)
  | lsv ws =>
    rw [hq] at q
    obtain ⟨vs, q, _⟩ := q
    exact .inl ⟨vs, q⟩
  | gone =>
    rw [hq] at q
    rcases q with q | q
    · exact .inl q
    · exact .inr (.inr q)
theorem RelH.own_at (r : RelH K S H h) {a : Addr} (m : a ∈ S.as) : ∃ o, H a = some o ∧ NT o := by
  rcases r.inAs m with ⟨vs, q⟩ | ⟨C, dx, fl, q⟩ | ⟨o, es, q⟩
  · exact ⟨_, q, nt_lst⟩
  · exact ⟨_, q, nt_ins⟩
  · exact ⟨_, q, nt_dicx⟩
theorem RelH.notTw (r : RelH K S H h) {a : Addr} (m : S.twA a) : ∃ kvs, H a = some (.dK kvs) := by
  obtain ⟨t, b, e, q⟩ := m
  obtain ⟨c, rs, h1, h2, _⟩ := r.twn t b e
  rcases q with rfl | rfl
  · exact ⟨_, h1⟩
  · exact ⟨_, h2⟩
theorem RelH.notMm (r : RelH K S H h) {a : Addr} (m : S.mmA a) : ∃ es, H a = some (DicO PWc.P PWc.w a es) := by
  obtain ⟨j, o, e⟩ := m
  obtain ⟨es, h1, _⟩ := r.mem a j o e
  exact ⟨es, h1⟩
theorem RelH.own_tw (r : RelH K S H h) {a : Addr} (m : a ∈ S.as) : ¬ S.twA a := fun z => by
  obtain ⟨kvs, q2⟩ := r.notTw z
  rcases r.inAs m with ⟨vs, q⟩ | ⟨C, dx, fl, q⟩ | ⟨o, es, q⟩ <;> (rw [q] at q2; cases q2)
theorem RelH.own_mm (r : RelH K S H h) {a : Addr} (m : a ∈ S.as) : ¬ S.mmA a := r.omm a (.inl m)
theorem RelH.keep (r : RelH K S H h) (x : Ext S H S' H') {a : Addr} {o : HO} (e : H a = some o) (h1 : ∀ vs, o ≠ .lst vs) (h2 : ∀ kvs, o ≠ .dK kvs) (h3 : NT o := by intro _ z; cases z) (h4 : ∀ C dx fl, o ≠ .ins C dx fl := by intro _ _ _ z; cases z) (h5 : ∀ φ, o ≠ .ext φ := by intro _ z; cases z) : H' a = some o := by
  refine x.fr a o e h3 (fun m => ?_) (fun m => ?_) (fun m => ?_)
  · rcases r.inAs m with ⟨vs, q⟩ | ⟨C, dx, fl, q⟩ | ⟨o', es, q⟩
    · rw [e] at q
      exact h1 vs (Option.some.inj q)
    · rw [e] at q
      exact h4 _ _ _ (Option.some.inj q)
    · rw [e] at q
      exact h5 _ (Option.some.inj q)
  · obtain ⟨vs, q⟩ := r.notTw m
    rw [e] at q
    exact h2 vs (Option.some.inj q)
  · obtain ⟨vs, q⟩ := r.notMm m
    rw [e] at q
    exact h5 _ (Option.some.inj q)
theorem RelH.keepF (r : RelH K S H h) (x : Ext S H S' H') {a : Addr} {o : HO} (e : H a = some o) (f : S.fz a) (h2 : ∀ kvs, o ≠ .dK kvs) (h3 : NT o := by intro _ z; cases z) : H' a = some o := by
  refine x.fk a _ e h3 f (fun m => ?_) (r.omm a (.inr f))
  obtain ⟨vs, q⟩ := r.notTw m
  rw [e] at q
  exact h2 vs (Option.some.inj q)
theorem RelH.keepL (r : RelH K S H h) (x : Ext S H S' H') {a : Addr} {vs : List V} (e : H a = some (.lst vs)) (f : S.fz a) : H' a = some (.lst vs) := r.keepF x e f (fun _ z => nomatch z)
theorem RelH.keepT (r : RelH K S H h) (x : Ext S H S' H') {a : Addr} {vs : List V} (e : SqT K H a vs) : SqT K H' a vs := by
  rcases e with (e | ⟨o, e⟩) | e
  · exact .inl (.inl (r.keep x e (fun _ z => nomatch z) fun _ z => nomatch z))
  · exact .inl (.inr ⟨o, r.keep x e (fun _ z => nomatch z) fun _ z => nomatch z⟩)
  · exact .inr e
theorem RelH.keepS (r : RelH K S H h) (x : Ext S H S' H') {a : Addr} (e : ScrOk K S H a) : ScrOk K S' H' a := by
  obtain ⟨ns, l, e⟩ := e
  refine ⟨ns, l, ?_⟩
  rcases e with ⟨o, e⟩ | ⟨e, f⟩ | e
  · exact .inl ⟨o, r.keep x e (fun _ z => nomatch z) fun _ z => nomatch z⟩
  · exact .inr (.inl ⟨r.keepL x e f, x.fz a f⟩)
  · exact .inr (.inr e)
mutual
theorem RV.ext (r : RelH K S H h) (x : Ext S H S' H') : ∀ (d : D) (v : V), RV K S H d v → RV K S' H' d v
  | .non, v, q => by unfold RV at q ⊢; exact q
  | .bl b, v, q => by unfold RV at q ⊢; exact q
  | .int i, v, q => by unfold RV at q ⊢; exact q
  | .str s, v, q => by unfold RV at q ⊢; exact q
  | .tup ds, v, q => by
    unfold RV at q ⊢
    obtain ⟨a, vs, e, t, q⟩ := q
    exact ⟨a, vs, e, r.keepT x t, RVs.ext r x ds vs q⟩
  | .lst ds, v, q => by
    unfold RV at q ⊢
    obtain ⟨a, vs, e, t, f, q⟩ := q
    exact ⟨a, vs, e, r.keepL x t f, x.fz a f, RVs.ext r x ds vs q⟩
  | .opq 0, v, q => by unfold RV at q ⊢; rw [x.sc]; exact q
  | .opq 1, v, q => by
    unfold RV at q ⊢
    obtain ⟨t, b, e, q⟩ := q
    exact ⟨t, b, x.tw _ _ e, q⟩
  | .opq (_ + 2), v, q => by unfold RV at q; exact q.elim
  | .obj c fs, v, q => by
    unfold RV at q ⊢
    obtain ⟨a, dx, fl, vs, ts, e, t, f, l1, l2, fo, mm, q⟩ := q
    exact ⟨a, dx, fl, vs, ts, e, r.keepF x t f (fun _ z => nomatch z), x.fz a f, l1, l2, fo, fun j d e => x.mm _ _ _ (mm j d e), RVs.ext r x fs vs q⟩
  | .dct kvs, v, q => by
    unfold RV at q ⊢
    obtain ⟨a, o, es, vs, e, t, f, k, e2, q⟩ := q
    exact ⟨a, o, es, vs, e, r.keepF x t f (fun _ z => nomatch z) nt_dicx, x.fz a f, k, e2, RVs.ext r x kvs vs q⟩
theorem RVs.ext (r : RelH K S H h) (x : Ext S H S' H') : ∀ (ds : List D) (vs : List V), RVs K S H ds vs → RVs K S' H' ds vs
  | [], vs, q => by unfold RVs at q ⊢; exact q
  | d :: ds, vs, q => by
    unfold RVs at q ⊢
    obtain ⟨v, t, e, q1, q2⟩ := q
    exact ⟨v, t, e, RV.ext r x d v q1, RVs.ext r x ds t q2⟩
end
theorem RW.ext (r : RelH K S H h) (x : Ext S H S' H') : ∀ (d : Vv) (v : V), RW K S H d v → RW K S' H' d v
  | .d x', v, q => RV.ext r x x' v q
  | .r n, v, q => by
    obtain ⟨a, e, q⟩ := q
    obtain ⟨ns, e2⟩ := x.as
    refine ⟨a, ?_, q⟩
    rw [e2, List.getElem?_append_left (List.getElem?_eq_some_iff.mp e).1]
    exact e
theorem RWs.ext (r : RelH K S H h) (x : Ext S H S' H') : ∀ (ds : List Vv) (vs : List V), RWs K S H ds vs → RWs K S' H' ds vs
  | [], vs, q => q
  | d :: ds, vs, q => by
    obtain ⟨v, t, e, q1, q2⟩ := q
    exact ⟨v, t, e, RW.ext r x d v q1, RWs.ext r x ds t q2⟩
theorem RelE.ext (r : RelH K S H h) (x : Ext S H S' H') {e : En} {σ : L2.St} (q : RelE K S H e σ) : RelE K S' H' e σ :=
  ⟨q.len, fun i y e1 => by
    obtain ⟨v, e2, q2⟩ := q.sl i y e1
    exact ⟨v, e2, RW.ext r x y v q2⟩⟩
theorem ext_new {p : Addr} {o : HO} (np : H p = none) : Ext S H S (upd H p o) :=
  ⟨⟨[], by simp⟩, fun a o' e n => ⟨o', by rw [upd_ne (ne_of_none e np)]; exact e, n⟩, fun _ _ _ _ m => m, fun _ m => m, fun _ _ _ _ m => .inl m, fun a o' e _ _ _ _ => by rw [upd_ne (ne_of_none e np)]; exact e, rfl, fun _ _ m => m, fun _ _ _ _ m => m, fun _ _ _ m => m, fun _ _ _ _ m => m, fun a o' e _ _ _ _ => by rw [upd_ne (ne_of_none e np)]; exact e⟩
theorem ext_more (k : ∀ a o, H a = some o → NT o → H' a = some o) : Ext S H S H' :=
  ⟨⟨[], by simp⟩, fun a o' e n => ⟨o', k a o' e n, n⟩, fun _ _ _ _ m => m, fun _ m => m, fun _ _ _ _ m => .inl m, fun a o' e n _ _ _ => k a o' e n, rfl, fun _ _ m => m, fun _ _ _ _ m => m, fun _ _ _ m => m, fun _ _ _ _ m => m, fun a o' e n _ _ _ => k a o' e n⟩
def Sg.frz (S : Sg) (p : Addr) : Sg := { S with fz := fun a => S.fz a ∨ a = p }
theorem ext_frz {p : Addr} {o : HO} (np : H p = none) : Ext S H (S.frz p) (upd H p o) :=
  ⟨⟨[], by simp [Sg.frz]⟩, fun a o' e n => ⟨o', by rw [upd_ne (ne_of_none e np)]; exact e, n⟩, fun _ _ _ _ m => m, fun _ m => .inl m, fun a o e _ m => (by
    rcases m with m | rfl
    · exact .inl m
    · rw [np] at e; cases e), fun a o' e _ _ _ _ => by rw [upd_ne (ne_of_none e np)]; exact e, rfl, fun _ _ m => m, fun _ _ _ _ m => m, fun _ _ _ m => m, fun _ _ _ _ m => m, fun a o' e _ _ _ _ => by rw [upd_ne (ne_of_none e np)]; exact e⟩
theorem ext_frzO {p : Addr} (m : p ∈ S.as) : Ext S H (S.frz p) H :=
  ⟨⟨[], by simp [Sg.frz]⟩, fun a o' e n => ⟨o', e, n⟩, fun _ _ _ _ m => m, fun _ m => .inl m, fun a o e _ z => (by
    rcases z with z | rfl
    · exact .inl z
    · exact .inr m), fun a o' e _ _ _ _ => e, rfl, fun _ _ m => m, fun _ _ _ _ m => m, fun _ _ _ m => m, fun _ _ _ _ m => m, fun a o' e _ _ _ _ => e⟩
def Sg.own (S : Sg) (p : Addr) : Sg := { S with as := S.as ++ [p] }
theorem ext_own {p : Addr} {o : HO} (np : H p = none) : Ext S H (S.own p) (upd H p o) :=
  ⟨⟨[p], rfl⟩, fun a o' e n => ⟨o', by rw [upd_ne (ne_of_none e np)]; exact e, n⟩, fun a o e _ m => (by
    rcases List.mem_append.mp m with m | m
    · exact m
    · have : a = p := by simpa using m
      subst this; rw [np] at e; cases e), fun _ m => m, fun a o e _ m => .inl m, fun a o' e _ _ _ _ => by rw [upd_ne (ne_of_none e np)]; exact e, rfl, fun _ _ m => m, fun _ _ _ _ m => m, fun _ _ _ m => m, fun _ _ _ _ m => m, fun a o' e _ _ _ _ => by rw [upd_ne (ne_of_none e np)]; exact e⟩
theorem RelH.mapO (r : RelH K S H h) (x : Ext S H S' H') (hs : ∀ a ∈ S.as, H' a = H a) {n : Nat} {o : Ob} (e : h[n]? = some o) : ∃ a, S'.as[n]? = some a ∧ RO K S' H' o a := by
  obtain ⟨a, e1, q⟩ := r.obj n o e
  obtain ⟨ns, e2⟩ := x.as
  refine ⟨a, by rw [e2, List.getElem?_append_left (List.getElem?_eq_some_iff.mp e1).1]; exact e1, ?_⟩
  cases o with
  | lst ds =>
    obtain ⟨vs, q1, q2⟩ := q
    exact ⟨vs, by rw [hs a (List.mem_of_getElem? e1)]; exact q1, RVs.ext r x ds vs q2⟩
  | ins c fs m =>
    obtain ⟨dx, fl, vs, ts, q1, q2, q3, q4, q5, q6, q7⟩ := q
    refine ⟨dx, fl, vs, ts, by rw [hs a (List.mem_of_getElem? e1)]; exact q1, RWs.ext r x fs vs q2, q3, q4, q5, q6, fun j d e => ?_⟩
    obtain ⟨ds, z1, z2⟩ := q7 j d e
    exact ⟨ds, z1, x.mm _ _ _ z2⟩
  | dct kvs =>
    obtain ⟨o, es, q1, q2, q3⟩ := q
    exact ⟨o, es, by rw [hs a (List.mem_of_getElem? e1)]; exact q1, q2, RVs.ext r x kvs _ q3⟩
  | lsv ws =>
    obtain ⟨vs, q1, q2⟩ := q
    exact ⟨vs, by rw [hs a (List.mem_of_getElem? e1)]; exact q1, RWs.ext r x ws vs q2⟩
  | gone =>
    rcases q with ⟨vs, q⟩ | ⟨o, es, q⟩
    · exact .inl ⟨vs, by rw [hs a (List.mem_of_getElem? e1)]; exact q⟩
    · exact .inr ⟨o, es, by rw [hs a (List.mem_of_getElem? e1)]; exact q⟩
theorem RelH.mapM (r : RelH K S H h) (x : Ext S H S' H') {d : Addr} {j : Nat} {o : D} (m : S.mm d j o) (hs : H' d = H d) : MemOk K S' H' d j o := by
  obtain ⟨es, h1, h2, h3⟩ := r.mem d j o m
  refine ⟨es, by rw [hs]; exact h1, h2, fun y hy => ?_⟩
  obtain ⟨kd, vd, z1, z2, z3, z4, z5, z6, z7⟩ := h3 y hy
  exact ⟨kd, vd, z1, z2, z3, RV.ext r x kd _ z4, z5, RV.ext r x vd _ z6, z7⟩
theorem TownOk.keep {t b : Addr} (q : TownOk H t b) (k : ∀ a o, H a = some o → H' a = some o) : TownOk H' t b := by
  obtain ⟨c, rs, h1, h2, h3⟩ := q
  exact ⟨c, rs, k _ _ h1, k _ _ h2, h3⟩
theorem upd_keeps {p : Addr} {o : HO} (np : H p = none) : ∀ a u, H a = some u → upd H p o a = some u := fun a u e => by
  rw [upd_ne (ne_of_none e np)]; exact e
theorem RelH.tabNew (r : RelH K S H h) {p : Addr} {o : HO} (np : H p = none) : LamX.Tabs (tbl K) (upd H p o) := r.tab.ext (upd_keeps np)
theorem RelH.more (r : RelH K S H h) (k : ∀ a o, H a = some o → NT o → H' a = some o) (ht : LamX.Tabs (tbl K) H') : RelH K S H' h where
  len := r.len
  nd := r.nd
  obj := fun n o' e => r.mapO (ext_more k) (fun a m => by
    obtain ⟨o, q, n⟩ := r.own_at m
    rw [q, k a _ q n]) e
  sep := r.sep
  scr := r.keepS (ext_more k) r.scr
  twn := fun t b e => by
    obtain ⟨c, rs, h1, h2, h3⟩ := r.twn t b e
    exact ⟨c, rs, k _ _ h1 nt_dK, k _ _ h2 nt_dK, h3⟩
  fzs := fun a m => by
    obtain ⟨o, q, n⟩ := r.fzs a m
    exact ⟨o, k a o q n, n⟩
  tab := ht
  mem := fun d j o m => r.mapM (ext_more k) m (by
    obtain ⟨es, q⟩ := r.notMm ⟨j, o, m⟩
    rw [q, k d _ q nt_dic])
  mmu := r.mmu
  omm := r.omm
theorem RelH.new (r : RelH K S H h) {p : Addr} {o : HO} (np : H p = none) : RelH K S (upd H p o) h where
  len := r.len
  nd := r.nd
  obj := fun n o' e => r.mapO (ext_new np) (fun a m => by
    obtain ⟨o, q, _⟩ := r.own_at m
    rw [upd_ne (ne_of_none q np)]) e
  sep := r.sep
  scr := r.keepS (ext_new np) r.scr
  twn := fun t b e => (r.twn t b e).keep (upd_keeps np)
  fzs := fun a m => by
    obtain ⟨o, q, n⟩ := r.fzs a m
    exact (ext_new (S := S) np).kp a o q n
  tab := r.tabNew np
  mem := fun d j o m => r.mapM (ext_new np) m (by
    obtain ⟨es, q⟩ := r.notMm ⟨j, o, m⟩
    rw [upd_ne (ne_of_none q np)])
  mmu := r.mmu
  omm := r.omm
theorem RelH.mm_some (r : RelH K S H h) {a : Addr} (m : S.mmA a) : ∃ o, H a = some o := by
  obtain ⟨es, q⟩ := r.notMm m
  exact ⟨_, q⟩
theorem RelH.frzG (r : RelH K S H h) {p : Addr} {o : HO} (np : H p = none) (no : NT o) : RelH K (S.frz p) (upd H p o) h where
  len := r.len
  nd := r.nd
  obj := fun n o' e => r.mapO (ext_frz np) (fun a m => by
    obtain ⟨o, q, _⟩ := r.own_at m
    rw [upd_ne (ne_of_none q np)]) e
  sep := fun n a o e1 e2 e3 z => by
    rcases z with z | rfl
    · exact r.sep n a o e1 e2 e3 z
    · obtain ⟨o, q, _⟩ := r.own_at (List.mem_of_getElem? e1)
      rw [np] at q; cases q
  scr := r.keepS (ext_frz np) r.scr
  twn := fun t b e => (r.twn t b e).keep (upd_keeps np)
  fzs := fun a m => by
    rcases m with m | rfl
    · obtain ⟨o, q, n⟩ := r.fzs a m
      exact (ext_new (S := S) np).kp a o q n
    · exact ⟨_, upd_same, no⟩
  tab := r.tabNew np
  mem := fun d j o m => r.mapM (ext_frz np) m (by
    obtain ⟨es, q⟩ := r.notMm ⟨j, o, m⟩
    rw [upd_ne (ne_of_none q np)])
  mmu := r.mmu
  omm := fun a m => by
    rcases m with m | m | rfl
    · exact r.omm a (.inl m)
    · exact r.omm a (.inr m)
    · intro z
      obtain ⟨o, q⟩ := r.mm_some z
      rw [np] at q; cases q
theorem RelH.frz (r : RelH K S H h) {p : Addr} {vs : List V} (np : H p = none) : RelH K (S.frz p) (upd H p (.lst vs)) h := r.frzG np nt_lst
theorem RelH.ownG (r : RelH K S H h) {p : Addr} {o : HO} {ob : Ob} (np : H p = none) (hp : RO K (S.own p) (upd H p o) ob p) : RelH K (S.own p) (upd H p o) (h ++ [ob]) where
  len := by simp [Sg.own, r.len]
  nd := by
    refine List.nodup_append.mpr ⟨r.nd, by simp, fun a m b hb => ?_⟩
    have : b = p := by simpa using hb
    subst this
    rintro rfl
    obtain ⟨o, q, _⟩ := r.own_at m
    rw [np] at q; cases q
  obj := fun n o e => by
    by_cases hn : n < h.length
    · rw [List.getElem?_append_left hn] at e
      exact r.mapO (ext_own np) (fun a m => by
        obtain ⟨o, q, _⟩ := r.own_at m
        rw [upd_ne (ne_of_none q np)]) e
    · have hn2 : n = h.length := by
        have := (List.getElem?_eq_some_iff.mp e).1
        simp at this
        omega
      subst hn2
      rw [List.getElem?_append_right (Nat.le_refl _)] at e
      simp at e
      subst e
      refine ⟨p, ?_, hp⟩
      show (S.as ++ [p])[h.length]? = some p
      rw [← r.len]
      simp
  sep := fun n a o e1 e2 e3 z => by
    have e1 : (S.as ++ [p])[n]? = some a := e1
    by_cases hn : n < h.length
    · rw [List.getElem?_append_left hn] at e2
      rw [List.getElem?_append_left (by rw [r.len]; exact hn)] at e1
      exact r.sep n a o e1 e2 e3 z
    · have : a = p := by
        rw [List.getElem?_append_right (by rw [r.len]; omega)] at e1
        simpa using List.mem_of_getElem? e1
      subst this
      obtain ⟨o, q, _⟩ := r.fzs a z
      rw [np] at q; cases q
  scr := r.keepS (ext_own np) r.scr
  twn := fun t b e => (r.twn t b e).keep (upd_keeps np)
  fzs := fun a m => by
    obtain ⟨o, q, n⟩ := r.fzs a m
    exact (ext_new (S := S) np).kp a o q n
  tab := r.tabNew np
  mem := fun d j o m => r.mapM (ext_own np) m (by
    obtain ⟨es, q⟩ := r.notMm ⟨j, o, m⟩
    rw [upd_ne (ne_of_none q np)])
  mmu := r.mmu
  omm := fun a m => by
    have key : ¬ S.mmA p := fun z => by
      obtain ⟨o, q⟩ := r.mm_some z
      rw [np] at q; cases q
    rcases m with m | m
    · rcases List.mem_append.mp m with m | m
      · exact r.omm a (.inl m)
      · have : a = p := by simpa using m
        subst this
        exact key
    · exact r.omm a (.inr m)
theorem RelH.own (r : RelH K S H h) {p : Addr} {ds : List D} {vs : List V} (np : H p = none) (q : RVs K S H ds vs) : RelH K (S.own p) (upd H p (.lst vs)) (h ++ [.lst ds]) :=
  r.ownG np ⟨vs, upd_same, RVs.ext r (ext_own np) ds vs q⟩
theorem ext_write {p : Addr} {o : HO} (m : p ∈ S.as) (nz : ¬ S.fz p) (no : NT o := by intro _ z; cases z) : Ext S H S (upd H p o) :=
  ⟨⟨[], by simp⟩, fun a o' e n => by
    by_cases hp : a = p
    · subst hp; exact ⟨o, upd_same, no⟩
    · exact ⟨o', by rw [upd_ne hp]; exact e, n⟩, fun _ _ _ _ m => m, fun _ m => m, fun _ _ _ _ m => .inl m, fun a o' e _ h1 _ _ => by
    rw [upd_ne (fun z => h1 (by rw [z]; exact m))]; exact e, rfl, fun _ _ m => m, fun _ _ _ _ m => m, fun _ _ _ m => m, fun _ _ _ _ m => m, fun a o' e _ f _ _ => by
    rw [upd_ne (fun z => nz (by rw [← z]; exact f))]; exact e⟩
theorem tabs_keep {T : List (Addr × Str)} (t : LamX.Tabs T H) (k : ∀ b o, H b = some o → (∃ ps, o = .tbl ps) ∨ (∃ φ, o = .ext φ) → H' b = some o) : LamX.Tabs T H' := fun p hp => by
  obtain ⟨ps, h1, h2, h3⟩ := t p hp
  refine ⟨ps, k _ _ h1 (.inl ⟨_, rfl⟩), h2, fun pos cv hc => ?_⟩
  obtain ⟨c, e1, e2⟩ := h3 pos cv hc
  exact ⟨c, e1, k _ _ e2 (.inr ⟨_, rfl⟩)⟩
theorem tabs_write {T : List (Addr × Str)} {p : Addr} {o o' : HO} (t : LamX.Tabs T H) (e : H p = some o) (n1 : NT o) (n2 : ∀ φ, o ≠ .ext φ) : LamX.Tabs T (upd H p o') := tabs_keep t fun b u eb hu => by
  rw [upd_ne (fun z => ?_)]
  · exact eb
  · rw [z, e] at eb
    have := Option.some.inj eb
    subst this
    rcases hu with ⟨ps, hu⟩ | ⟨φ, hu⟩
    · exact n1 ps hu
    · exact n2 φ hu
theorem tabs_dicx {T : List (Addr × Str)} {p : Addr} {P : Program} {w : World} {o : Obj} {es : List EnT} {o' : HO} (t : LamX.Tabs T H) (e : H p = some (DicX P w p o es)) : LamX.Tabs T (upd H p o') := fun q hq => by
  obtain ⟨ps, g1, g2, g3⟩ := t q hq
  refine ⟨ps, ?_, g2, fun pos cv hc => ?_⟩
  · rw [upd_ne (ne_of g1 e (fun z => nomatch z))]; exact g1
  · obtain ⟨c, e1, e2⟩ := g3 pos cv hc
    refine ⟨c, e1, ?_⟩
    rw [upd_ne ?_]
    · exact e2
    · rintro rfl
      rw [e] at e2
      exact dicx_code (Option.some.inj e2)
theorem RelH.nz (r : RelH K S H h) {n : Nat} {p : Addr} {o0 : Ob} (e : S.as[n]? = some p) (e0 : h[n]? = some o0) (l0 : o0.live = true := by rfl) : ¬ S.fz p := r.sep n p o0 e e0 l0
theorem RelH.change (r : RelH K S H h) {n : Nat} {p : Addr} {o : HO} {ob : Ob} (e : S.as[n]? = some p) (nz : ¬ S.fz p) (no : NT o) (hp : RO K S (upd H p o) ob p) : RelH K S (upd H p o) (h.set n ob) where
  len := by rw [List.length_set]; exact r.len
  nd := r.nd
  obj := fun m o' em => by
    have mp := List.mem_of_getElem? e
    by_cases hm : m = n
    · subst hm
      have hl : m < h.length := by
        have := (List.getElem?_eq_some_iff.mp em).1
        simpa using this
      rw [List.getElem?_set_self hl] at em
      cases em
      exact ⟨p, e, hp⟩
    · rw [List.getElem?_set_ne (Ne.symm hm)] at em
      obtain ⟨a, e1, q1⟩ := r.obj m o' em
      have ha : a ≠ p := by
        rintro rfl
        exact hm (nodup_ix' r.nd e1 e)
      refine ⟨a, e1, ?_⟩
      have xw := ext_write (S := S) (H := H) (o := o) mp nz no
      cases o' with
      | lst xs =>
        obtain ⟨ws, w1, w2⟩ := q1
        exact ⟨ws, by rw [upd_ne ha]; exact w1, RVs.ext r xw xs ws w2⟩
      | ins c fs m =>
        obtain ⟨dx, fl, vs, ts, z1, z2, z3, z4, z5, z6, z7⟩ := q1
        exact ⟨dx, fl, vs, ts, by rw [upd_ne ha]; exact z1, RWs.ext r xw fs vs z2, z3, z4, z5, z6, z7⟩
      | dct kvs =>
        obtain ⟨o, es, z1, z2, z3⟩ := q1
        exact ⟨o, es, by rw [upd_ne ha]; exact z1, z2, RVs.ext r xw kvs _ z3⟩
      | lsv ws =>
        obtain ⟨vs, z1, z2⟩ := q1
        exact ⟨vs, by rw [upd_ne ha]; exact z1, RWs.ext r xw ws vs z2⟩
      | gone =>
        rcases q1 with ⟨vs, q1⟩ | ⟨o, es, q1⟩
        · exact .inl ⟨vs, by rw [upd_ne ha]; exact q1⟩
        · exact .inr ⟨o, es, by rw [upd_ne ha]; exact q1⟩
  sep := fun m a o' e1 e2 e3 z => by
    by_cases hm : m = n
    · subst hm
      rw [e] at e1
      cases e1
      exact nz z
    · rw [List.getElem?_set_ne (Ne.symm hm)] at e2
      exact r.sep m a o' e1 e2 e3 z
  scr := r.keepS (ext_write (List.mem_of_getElem? e) nz no) r.scr
  twn := fun t b et => by
    have tk : ∀ a, S.twA a → a ≠ p := fun a ma z => by
      subst z
      exact r.own_tw (List.mem_of_getElem? e) ma
    obtain ⟨c, rs, h1, h2, h3⟩ := r.twn t b et
    exact ⟨c, rs, by rw [upd_ne (tk t ⟨t, b, et, .inl rfl⟩)]; exact h1, by rw [upd_ne (tk b ⟨t, b, et, .inr rfl⟩)]; exact h2, h3⟩
  fzs := fun a m => by
    obtain ⟨o', q, n⟩ := r.fzs a m
    exact (ext_write (o := o) (List.mem_of_getElem? e) nz no).kp a o' q n
  tab := by
    rcases r.inAs (List.mem_of_getElem? e) with ⟨ws, q2⟩ | ⟨C, dx, fl, q2⟩ | ⟨oo, es, q2⟩
    · exact tabs_write r.tab q2 nt_lst (fun _ z => nomatch z)
    · exact tabs_write r.tab q2 nt_ins (fun _ z => nomatch z)
    · exact tabs_dicx r.tab q2
  mem := fun d j o' m => r.mapM (ext_write (List.mem_of_getElem? e) nz no) m (by
    rw [upd_ne (fun z => r.own_mm (List.mem_of_getElem? e) ⟨j, o', by rw [← z]; exact m⟩)])
  mmu := r.mmu
  omm := r.omm
where
  nodup_ix' {N : List Addr} (hN : N.Nodup) {i j : Nat} {x : Addr} (a : N[i]? = some x) (b : N[j]? = some x) : i = j := by
    obtain ⟨h1, e1⟩ := List.getElem?_eq_some_iff.mp a
    obtain ⟨h2, e2⟩ := List.getElem?_eq_some_iff.mp b
    exact (List.getElem_inj hN).mp (e1.trans e2.symm)
theorem RelH.write (r : RelH K S H h) {n : Nat} {p : Addr} {ds : List D} {vs : List V} (e : S.as[n]? = some p) (nz : ¬ S.fz p) (q : RVs K S H ds vs) : RelH K S (upd H p (.lst vs)) (h.set n (.lst ds)) :=
  r.change e nz nt_lst ⟨vs, upd_same, RVs.ext r (ext_write (List.mem_of_getElem? e) nz nt_lst) ds vs q⟩
theorem RelH.moveG (r : RelH K S H h) {n : Nat} {p : Addr} {ob : Ob} {d : D} (e : S.as[n]? = some p) (e0 : h[n]? = some ob) (hg : RO K (S.frz p) H .gone p) (hv : RV K (S.frz p) H d (.ref p)) (hn : ∃ o, H p = some o ∧ NT o) : RelH K (S.frz p) H (h.set n .gone) ∧ RV K (S.frz p) H d (.ref p) := by
  have mp := List.mem_of_getElem? e
  have x : Ext S H (S.frz p) H := ext_frzO mp
  refine ⟨⟨by rw [List.length_set]; exact r.len, r.nd, fun m o' em => ?_, fun m a o' e1 e2 e3 z => ?_, r.keepS x r.scr, r.twn, fun a z => ?_, r.tab, fun d j o' m => r.mapM x m rfl, r.mmu, fun a m => ?_⟩, hv⟩
  · by_cases hm : m = n
    · subst hm
      have hl : m < h.length := (List.getElem?_eq_some_iff.mp e0).1
      rw [List.getElem?_set_self hl] at em
      cases em
      exact ⟨p, e, hg⟩
    · rw [List.getElem?_set_ne (Ne.symm hm)] at em
      exact r.mapO x (fun a _ => rfl) em
  · by_cases hm : m = n
    · subst hm
      have hl : m < h.length := (List.getElem?_eq_some_iff.mp e0).1
      rw [List.getElem?_set_self hl] at e2
      cases e2
      cases e3
    · rw [List.getElem?_set_ne (Ne.symm hm)] at e2
      rcases z with z | rfl
      · exact r.sep m a o' e1 e2 e3 z
      · exact hm (RelH.change.nodup_ix' r.nd e1 e)
  · rcases z with z | rfl
    · exact r.fzs a z
    · exact hn
  · rcases m with m | m | rfl
    · exact r.omm a (.inl m)
    · exact r.omm a (.inr m)
    · exact r.omm a (.inl mp)
theorem RelH.move (r : RelH K S H h) {n : Nat} {p : Addr} {kvs : List D} (e : S.as[n]? = some p) (e0 : h[n]? = some (.dct kvs)) : RelH K (S.frz p) H (h.set n .gone) ∧ RV K (S.frz p) H (.dct kvs) (.ref p) := by
  have mp := List.mem_of_getElem? e
  have x : Ext S H (S.frz p) H := ext_frzO mp
  obtain ⟨b, eb, o, es, q1, q2, q3⟩ := r.obj n _ e0
  rw [e] at eb
  cases eb
  refine r.moveG e e0 (.inr ⟨o, es, q1⟩) ?_ ⟨_, q1, nt_dicx⟩
  unfold RV
  exact ⟨p, o, es, _, rfl, q1, .inr rfl, q2, rfl, RVs.ext r x kvs _ q3⟩
theorem RelH.moveL (r : RelH K S H h) {n : Nat} {p : Addr} {xs : List D} (e : S.as[n]? = some p) (e0 : h[n]? = some (.lst xs)) : RelH K (S.frz p) H (h.set n .gone) ∧ RV K (S.frz p) H (.lst xs) (.ref p) := by
  have mp := List.mem_of_getElem? e
  have x : Ext S H (S.frz p) H := ext_frzO mp
  obtain ⟨b, eb, vs, q1, q2⟩ := r.obj n _ e0
  rw [e] at eb
  cases eb
  refine r.moveG e e0 (.inl ⟨vs, q1⟩) ?_ ⟨_, q1, nt_lst⟩
  unfold RV
  exact ⟨p, vs, rfl, q1, .inr rfl, RVs.ext r x xs _ q2⟩
theorem RelH.settle (r : RelH K S H h) {n : Nat} {p : Addr} {ob : Ob} (e : S.as[n]? = some p) (e0 : h[n]? = some ob) (l0 : ob.live = true) {ds : List D} {vs : List V} (hv : H p = some (.lst vs)) (q : RVs K S H ds vs) : RelH K S H (h.set n (.lst ds)) := by
  have hl : n < h.length := (List.getElem?_eq_some_iff.mp e0).1
  refine ⟨by rw [List.length_set]; exact r.len, r.nd, fun m o' em => ?_, fun m a o' e1 e2 e3 z => ?_, r.scr, r.twn, r.fzs, r.tab, r.mem, r.mmu, r.omm⟩
  · by_cases hm : m = n
    · subst hm
      rw [List.getElem?_set_self hl] at em
      cases em
      exact ⟨p, e, vs, hv, q⟩
    · rw [List.getElem?_set_ne (Ne.symm hm)] at em
      exact r.obj m o' em
  · by_cases hm : m = n
    · subst hm
      rw [e] at e1
      cases e1
      exact r.sep m p ob e e0 l0 z
    · rw [List.getElem?_set_ne (Ne.symm hm)] at e2
      exact r.sep m a o' e1 e2 e3 z
theorem ext_mem {p : Addr} {o : HO} (m : S.mmA p) (no : NT o) : Ext S H S (upd H p o) :=
  ⟨⟨[], by simp⟩, fun a o' e n => by
    by_cases hp : a = p
    · subst hp; exact ⟨o, upd_same, no⟩
    · exact ⟨o', by rw [upd_ne hp]; exact e, n⟩, fun _ _ _ _ m => m, fun _ m => m, fun _ _ _ _ m => .inl m, fun a o' e _ _ _ h1 => by
    rw [upd_ne (fun z => h1 (by rw [z]; exact m))]; exact e, rfl, fun _ _ m => m, fun _ _ _ _ m => m, fun _ _ _ m => m, fun _ _ _ _ m => m, fun a o' e _ _ _ h1 => by
    rw [upd_ne (fun z => h1 (by rw [z]; exact m))]; exact e⟩
theorem RelH.store (r : RelH K S H h) {d : Addr} {j : Nat} {o kd vd : D} {es : List EnE} {b : Addr} {v : V} (m : S.mm d j o) (e : H d = some (DicO PWc.P PWc.w d es)) (g2 : (es.map (·.1)).Nodup)
    (g3 : ∀ x ∈ es, ∃ kd vd, nk kd = x.1 ∧ isTup kd = true ∧ D.keyD 8 kd = true ∧ RV K S H kd (.ref x.2.1) ∧ isScal vd = true ∧ RV K S H vd x.2.2 ∧ MF.f j o kd = some vd) (h1 : isTup kd = true) (h2 : D.keyD 8 kd = true) (h3 : RV K S H kd (.ref b)) (h4 : isScal vd = true) (h5 : RV K S H vd v) (h6 : MF.f j o kd = some vd) :
    RelH K S (upd H d (DicO PWc.P PWc.w d (putE es (nk kd) b v))) h := by
  have x : Ext S H S (upd H d (DicO PWc.P PWc.w d (putE es (nk kd) b v))) := ext_mem ⟨j, o, m⟩ nt_dic
  refine ⟨r.len, r.nd, fun n o' e' => r.mapO x (fun a ma => ?_) e', r.sep, r.keepS x r.scr, fun t b' et => ?_, fun a ma => ?_, ?_, fun d' j' o' m' => ?_, r.mmu, r.omm⟩
  · rw [upd_ne (fun z => r.own_mm ma ⟨j, o, by rw [z]; exact m⟩)]
  · have tk : ∀ a, S.twA a → a ≠ d := fun a ma z => by
      subst z
      obtain ⟨kvs, q1⟩ := r.notTw ma
      rw [e] at q1; cases q1
    obtain ⟨c, rs, g1, g2, g3⟩ := r.twn t b' et
    exact ⟨c, rs, by rw [upd_ne (tk t ⟨t, b', et, .inl rfl⟩)]; exact g1, by rw [upd_ne (tk b' ⟨t, b', et, .inr rfl⟩)]; exact g2, g3⟩
  · obtain ⟨o', q, n⟩ := r.fzs a ma
    exact x.kp a o' q n
  · intro p hp
    obtain ⟨ps, g1, g2, g3⟩ := r.tab p hp
    refine ⟨ps, ?_, g2, fun pos cv hc => ?_⟩
    · rw [upd_ne (ne_of g1 e (fun z => nomatch z))]; exact g1
    · obtain ⟨c, e1, e2⟩ := g3 pos cv hc
      refine ⟨c, e1, ?_⟩
      rw [upd_ne ?_]
      · exact e2
      · rintro rfl
        rw [e] at e2
        exact dic_code (Option.some.inj e2)
  · by_cases hd : d' = d
    · subst hd
      obtain ⟨rfl, rfl⟩ := r.mmu _ _ _ _ _ m m'
      refine ⟨putE es (nk kd) b v, upd_same, putE_fst es _ b v g2, fun y hy => ?_⟩
      rcases putE_mem hy with ⟨z1, z2, z3⟩ | hy
      · rw [z2, z1]
        rcases z3 with z3 | ⟨y', hy', z4, z5⟩
        · rw [z3]
          exact ⟨kd, vd, rfl, h1, h2, RV.ext r x kd _ h3, h4, RV.ext r x vd _ h5, h6⟩
        · obtain ⟨kd', vd', w1, w2, w3, w4, w5, w6, w7⟩ := g3 y' hy'
          have ek : kd' = kd := nk_inj 8 8 kd' kd w3 h2 (by rw [w1, z4])
          subst ek
          exact ⟨kd', vd, rfl, h1, h2, by rw [← z5]; exact RV.ext r x kd' _ w4, h4, RV.ext r x vd _ h5, h6⟩
      · obtain ⟨kd', vd', z1, z2, z3, z4, z5, z6, z7⟩ := g3 y hy
        exact ⟨kd', vd', z1, z2, z3, RV.ext r x kd' _ z4, z5, RV.ext r x vd' _ z6, z7⟩
    · exact r.mapM x m' (by rw [upd_ne hd])
theorem mem_len {j : Nat} {o : D} {es : List EnE} (g2 : (es.map (·.1)).Nodup) (g3 : ∀ x ∈ es, ∃ kd, nk kd = x.1 ∧ (MF.f j o kd).isSome = true) : es.length ≤ 1000000 := by
  have key : ∀ es : List EnE, (es.map (·.1)).Nodup → (∀ x ∈ es, ∃ kd, nk kd = x.1 ∧ (MF.f j o kd).isSome = true) → ∃ l : List Nat, l.length = es.length ∧ l.Nodup ∧ ∀ n ∈ l, n < 1000000 ∧ ∃ x ∈ es, ∃ kd, nk kd = x.1 ∧ (MF.f j o kd).isSome = true ∧ MF.ix j o kd = n := by
    intro es
    induction es with
    | nil => exact fun _ _ => ⟨[], rfl, List.nodup_nil, fun n hn => (by cases hn)⟩
    | cons x es ih =>
      intro hn hk
      rw [List.map_cons, List.nodup_cons] at hn
      obtain ⟨l, l1, l2, l3⟩ := ih hn.2 fun y hy => hk y (List.mem_cons_of_mem _ hy)
      obtain ⟨kd, k1, k2⟩ := hk x List.mem_cons_self
      refine ⟨MF.ix j o kd :: l, by rw [List.length_cons, List.length_cons, l1], List.nodup_cons.mpr ⟨fun hm => ?_, l2⟩, fun n hm => ?_⟩
      · obtain ⟨_, y, hy, kd', e1, e2, e3⟩ := l3 _ hm
        have := MF.inj j o kd' kd e2 k2 e3
        subst this
        exact hn.1 (List.mem_map.mpr ⟨y, hy, by rw [← e1, k1]⟩)
      · rcases List.mem_cons.mp hm with rfl | hm
        · exact ⟨MF.lt j o kd, x, List.mem_cons_self, kd, k1, k2, rfl⟩
        · obtain ⟨h1, y, hy, q⟩ := l3 n hm
          exact ⟨h1, y, List.mem_cons_of_mem _ hy, q⟩
  obtain ⟨l, l1, l2, l3⟩ := key es g2 g3
  have := nat_nodup_len l (List.range 1000000) l2 fun n hn => List.mem_range.mpr (l3 n hn).1
  rw [List.length_range] at this
  omega
end
section
variable {K : PySem.W.Frag} {S : Sg} {H : Hp}
theorem RVs.length : ∀ {ds : List D} {vs : List V}, RVs K S H ds vs → vs.length = ds.length
  | [], vs, q => by unfold RVs at q; subst q; rfl
  | d :: ds, vs, q => by
    unfold RVs at q
    obtain ⟨v, t, rfl, _, q⟩ := q
    rw [List.length_cons, List.length_cons, RVs.length q]
theorem RVs.nil : RVs K S H [] [] := by unfold RVs; rfl
theorem RVs.cons {d : D} {ds : List D} {v : V} {vs : List V} (a : RV K S H d v) (b : RVs K S H ds vs) : RVs K S H (d :: ds) (v :: vs) := by unfold RVs; exact ⟨v, vs, rfl, a, b⟩
theorem RVs.nil_iff {vs : List V} (q : RVs K S H [] vs) : vs = [] := by unfold RVs at q; exact q
theorem RVs.of_cons {d : D} {ds : List D} {vs : List V} (q : RVs K S H (d :: ds) vs) : ∃ v r, vs = v :: r ∧ RV K S H d v ∧ RVs K S H ds r := by unfold RVs at q; exact q
theorem RVs.append : ∀ {ds es : List D} {vs ws : List V}, RVs K S H ds vs → RVs K S H es ws → RVs K S H (ds ++ es) (vs ++ ws)
  | [], es, vs, ws, q, r => by rw [q.nil_iff]; exact r
  | d :: ds, es, vs, ws, q, r => by
    obtain ⟨v, t, rfl, q1, q2⟩ := q.of_cons
    exact .cons q1 (RVs.append q2 r)
theorem RVs.take : ∀ (n : Nat) {ds : List D} {vs : List V}, RVs K S H ds vs → RVs K S H (ds.take n) (vs.take n)
  | 0, ds, vs, _ => by rw [List.take_zero, List.take_zero]; exact .nil
  | n + 1, [], vs, q => by rw [q.nil_iff]; exact .nil
  | n + 1, d :: ds, vs, q => by
    obtain ⟨v, t, rfl, q1, q2⟩ := q.of_cons
    exact .cons q1 (RVs.take n q2)
theorem RVs.drop : ∀ (n : Nat) {ds : List D} {vs : List V}, RVs K S H ds vs → RVs K S H (ds.drop n) (vs.drop n)
  | 0, ds, vs, q => q
  | n + 1, [], vs, q => by rw [q.nil_iff]; exact .nil
  | n + 1, d :: ds, vs, q => by
    obtain ⟨v, t, rfl, q1, q2⟩ := q.of_cons
    exact RVs.drop n q2
theorem RVs.get : ∀ {ds : List D} {vs : List V} {i : Nat} {d : D}, RVs K S H ds vs → ds[i]? = some d → ∃ v, vs[i]? = some v ∧ RV K S H d v
  | [], vs, i, d, q, e => by simp at e
  | d :: ds, vs, 0, d', q, e => by
    obtain ⟨v, t, rfl, q1, q2⟩ := q.of_cons
    simp at e; subst e
    exact ⟨v, rfl, q1⟩
  | d :: ds, vs, i + 1, d', q, e => by
    obtain ⟨v, t, rfl, q1, q2⟩ := q.of_cons
    obtain ⟨w, e1, r⟩ := RVs.get (i := i) (d := d') q2 (by simpa using e)
    exact ⟨w, by simpa using e1, r⟩
theorem RVs.get' : ∀ {ds : List D} {vs : List V} {i : Nat} {v : V}, RVs K S H ds vs → vs[i]? = some v → ∃ d, ds[i]? = some d ∧ RV K S H d v
  | [], vs, i, d, q, e => by rw [q.nil_iff] at e; simp at e
  | d :: ds, vs, 0, d', q, e => by
    obtain ⟨v, t, rfl, q1, q2⟩ := q.of_cons
    simp at e; subst e
    exact ⟨d, rfl, q1⟩
  | d :: ds, vs, i + 1, d', q, e => by
    obtain ⟨v, t, rfl, q1, q2⟩ := q.of_cons
    obtain ⟨w, e1, r⟩ := RVs.get' (i := i) (v := d') q2 (by simpa using e)
    exact ⟨w, by simpa using e1, r⟩
theorem RVs.set : ∀ {ds : List D} {vs : List V} (i : Nat) {d : D} {v : V}, RVs K S H ds vs → RV K S H d v → RVs K S H (ds.set i d) (vs.set i v)
  | [], vs, i, d, v, q, _ => by rw [q.nil_iff]; exact .nil
  | d :: ds, vs, 0, d', v', q, r => by
    obtain ⟨v, t, rfl, q1, q2⟩ := q.of_cons
    exact .cons r q2
  | d :: ds, vs, i + 1, d', v', q, r => by
    obtain ⟨v, t, rfl, q1, q2⟩ := q.of_cons
    exact .cons q1 (RVs.set i q2 r)
theorem RVs.rep {ds : List D} {vs : List V} (q : RVs K S H ds vs) : ∀ n : Nat, RVs K S H (repD n ds) (repD n vs)
  | 0 => .nil
  | n + 1 => by
    show RVs K S H (List.replicate (n + 1) ds).flatten (List.replicate (n + 1) vs).flatten
    rw [List.replicate_succ, List.replicate_succ, List.flatten_cons, List.flatten_cons]
    exact q.append (RVs.rep q n)
theorem RW.view {h : Hq} (r : RelH K S H h) : ∀ {x : Vv} {v : V} {d : D}, RW K S H x v → rdV h x = some d → RV K S H d v ∨ (∃ ds a vs, d = .lst ds ∧ v = .ref a ∧ H a = some (.lst vs) ∧ RVs K S H ds vs) ∨ (∃ c ds, d = .obj c ds) ∨ ∃ kvs a o es, d = .dct kvs ∧ v = .ref a ∧ H a = some (DicX PWc.P PWc.w a o es) ∧ DKeys kvs es ∧ RVs K S H kvs (flatE es)
  | .d x, v, d, q, e => by
    have : x = d := Option.some.inj e
    subst this
    exact .inl q
  | .r n, v, d, q, e => by
    obtain ⟨a, ea, rfl⟩ := q
    simp only [rdV] at e
    split at e
    · rename_i xs hx
      have : D.lst xs = d := Option.some.inj e
      subst this
      obtain ⟨b, eb, vs, hv, q⟩ := r.obj n _ hx
      rw [ea] at eb; cases eb
      exact .inr (.inl ⟨xs, a, vs, rfl, rfl, hv, q⟩)
    · split at e
      · obtain ⟨ds, _, rfl⟩ := Option.map_eq_some_iff.mp e
        exact .inr (.inr (.inl ⟨_, _, rfl⟩))
      · cases e
    · rename_i kvs hx
      cases e
      obtain ⟨b, eb, o, es, z1, z2, z3⟩ := r.obj n _ hx
      rw [ea] at eb; cases eb
      exact .inr (.inr (.inr ⟨kvs, a, o, es, rfl, rfl, z1, z2, z3⟩))
    · cases e
    · cases e
    · cases e
theorem RW.lst {h : Hq} (r : RelH K S H h) {x : Vv} {v : V} {ds : List D} (q : RW K S H x v) (e : rdV h x = some (.lst ds)) : ∃ a vs, v = .ref a ∧ H a = some (.lst vs) ∧ RVs K S H ds vs := by
  rcases q.view r e with q | ⟨ds', a, vs, e1, e2, e3, q⟩ | ⟨c, ds', e1⟩ | ⟨_, _, _, _, e1, _⟩
  · unfold RV at q
    obtain ⟨a, vs, e1, e2, _, q⟩ := q
    exact ⟨a, vs, e1, e2, q⟩
  · cases e1
    exact ⟨a, vs, e2, e3, q⟩
  · cases e1
  · cases e1
theorem RW.dct {h : Hq} (r : RelH K S H h) {x : Vv} {v : V} {kvs : List D} (q : RW K S H x v) (e : rdV h x = some (.dct kvs)) : ∃ a o es, v = .ref a ∧ H a = some (DicX PWc.P PWc.w a o es) ∧ DKeys kvs es ∧ RVs K S H kvs (flatE es) := by
  rcases q.view r e with q | ⟨ds', a, vs, e1, e2, e3, q⟩ | ⟨c, ds', e1⟩ | ⟨kvs', a, o, es, e1, e2, e3, e4, e5⟩
  · unfold RV at q
    obtain ⟨a, o, es, vs, e1, e2, _, e3, rfl, q⟩ := q
    exact ⟨a, o, es, e1, e2, e3, q⟩
  · cases e1
  · cases e1
  · cases e1
    exact ⟨a, o, es, e2, e3, e4, e5⟩
theorem RW.dat {h : Hq} (r : RelH K S H h) {x : Vv} {v : V} {d : D} (q : RW K S H x v) (e : rdV h x = some d) (n : ∀ ds, d ≠ .lst ds) (n2 : ∀ c ds, d ≠ .obj c ds := by intro _ _ z; cases z) (n3 : ∀ ds, d ≠ .dct ds := by intro _ z; cases z) : RV K S H d v := by
  rcases q.view r e with q | ⟨ds', a, vs, e1, e2, e3, q⟩ | ⟨c, ds', e1⟩ | ⟨kvs', a, o, es, e1, _⟩
  · exact q
  · exact absurd e1 (n ds')
  · exact absurd e1 (n2 c ds')
  · exact absurd e1 (n3 kvs')
end
end Bk
namespace Bk
open PySem PySem.Spec PyProof.Rows L2
variable [MF] [PWc]
theorem lim_le : lim ≤ sizeLine := by rw [sizeLine_eq]; decide
def Dl (K : PySem.W.Frag) (S : Sg) (H : Hp) (h : Hq) (z : D) (Q : VK) : Prop := ∀ S' v H', Ext S H S' H' → RelH K S' H' h → RV K S' H' z v → Q v H'
section
variable {K : PySem.W.Frag} {S : Sg} {H : Hp} {h : Hq} {Q : VK}
theorem Dl.here {z : D} {v : V} (d : Dl K S H h z Q) (r : RelH K S H h) (q : RV K S H z v) : Q v H := d S v H (Ext.refl S H) r q
theorem Dl.tup {ds : List D} {vs : List V} (d : Dl K S H h (.tup ds) Q) (r : RelH K S H h) (q : RVs K S H ds vs) : ∀ p, H p = none → Q (.ref p) (upd H p (.tup vs)) := fun p np =>
  d S (.ref p) _ (ext_new np) (r.new np) (by unfold RV; exact ⟨p, vs, rfl, .inl (.inl upd_same), RVs.ext r (ext_new np) ds vs q⟩)
theorem Dl.lst {ds : List D} {vs : List V} (d : Dl K S H h (.lst ds) Q) (r : RelH K S H h) (q : RVs K S H ds vs) : ∀ p, H p = none → Q (.ref p) (upd H p (.lst vs)) := fun p np =>
  d (S.frz p) (.ref p) _ (ext_frz np) (r.frz np) (by unfold RV; exact ⟨p, vs, rfl, upd_same, .inr rfl, RVs.ext r (ext_frz np) ds vs q⟩)
theorem Dl.int {i : Int} (d : Dl K S H h (.int i) Q) (r : RelH K S H h) : Q (.int i) H := d.here r (by unfold RV; rfl)
theorem Dl.bl {i : Bool} (d : Dl K S H h (.bl i) Q) (r : RelH K S H h) : Q (.bl i) H := d.here r (by unfold RV; rfl)
theorem Dl.str {s : List Nat} {z : Str} (d : Dl K S H h (.str s) Q) (r : RelH K S H h) (e : z = ⟨s.toArray⟩) : Q (.str z) H := d.here r (by unfold RV; rw [e])
theorem Dl.tupAt {ds : List D} {vs : List V} {a : Addr} (d : Dl K S H h (.tup ds) Q) (r : RelH K S H h) (t : SqT K H a vs) (q : RVs K S H ds vs) : Q (.ref a) H := d.here r (by unfold RV; exact ⟨a, vs, rfl, t, q⟩)
theorem RW.int {a : Vv} {x : V} {i : Int} (r : RelH K S H h) (q : RW K S H a x) (e : rdV h a = some (.int i)) : x = .int i := by
  have := q.dat r e (fun _ z => nomatch z)
  unfold RV at this; exact this
theorem RW.bl {a : Vv} {x : V} {i : Bool} (r : RelH K S H h) (q : RW K S H a x) (e : rdV h a = some (.bl i)) : x = .bl i := by
  have := q.dat r e (fun _ z => nomatch z)
  unfold RV at this; exact this
theorem RW.non {a : Vv} {x : V} (r : RelH K S H h) (q : RW K S H a x) (e : rdV h a = some .non) : x = .non := by
  have := q.dat r e (fun _ z => nomatch z)
  unfold RV at this; exact this
theorem RW.str {a : Vv} {x : V} {i : List Nat} (r : RelH K S H h) (q : RW K S H a x) (e : rdV h a = some (.str i)) : x = .str ⟨i.toArray⟩ := by
  have := q.dat r e (fun _ z => nomatch z)
  unfold RV at this; exact this
theorem RW.tup {a : Vv} {x : V} {ds : List D} (r : RelH K S H h) (q : RW K S H a x) (e : rdV h a = some (.tup ds)) : ∃ p vs, x = .ref p ∧ SqT K H p vs ∧ RVs K S H ds vs := by
  have := q.dat r e (fun _ z => nomatch z)
  unfold RV at this; exact this
def rOp (K : PySem.W.Frag) (f : D → D → Option D) : R2 := fun x y H Q => ∃ S h a b p q z, RelH K S H h ∧ RW K S H a x ∧ RW K S H b y ∧ rdV h a = some p ∧ rdV h b = some q ∧ f p q = some z ∧ Dl K S H h z Q
end
section
variable {X : Cx}
theorem opR_add : OpR X (binaryOp .Add) (rOp X.K addD) := by
  intro pins s σ H x y v u Q I rx ry h
  obtain ⟨S, h, a, b, p, q, z, r, ra, rb, ea, eb, hz, dl⟩ := h
  unfold addD at hz
  split at hz
  · cases hz
    exact op_add pins s σ H x y v u Q I rx ry ⟨_, _, ra.int r ea, rb.int r eb, dl.int r⟩
  · split at hz
    · rename_i hl
      cases hz
      refine op_add_str pins s σ H x y v u Q I rx ry ⟨_, _, ra.str r ea, rb.str r eb, ?_, dl.str r ?_⟩
      · exact Nat.le_trans (by simpa [Str.length] using hl) lim_le
      · show Str.mk _ = _
        simp
    · cases hz
  · split at hz
    · rename_i hl
      cases hz
      obtain ⟨p1, vs, rfl, t1, q1⟩ := ra.tup r ea
      obtain ⟨p2, ws, rfl, t2, q2⟩ := rb.tup r eb
      refine op_catA pins s σ H _ _ v u Q I rx ry ⟨p1, p2, vs, ws, rfl, rfl, t1, t2, ?_, fun e => ?_, fun _ e => ?_, fun _ _ => dl.tup r (q1.append q2)⟩
      · rw [q1.length, q2.length]; exact Nat.le_trans hl lim_le
      · have := q1.append q2
        rw [e] at this
        exact dl.tupAt r t2 this
      · have := q1.append q2
        rw [e, List.append_nil] at this
        exact dl.tupAt r t1 this
    · cases hz
  · split at hz
    · rename_i hl
      cases hz
      obtain ⟨p1, vs, rfl, t1, q1⟩ := ra.lst r ea
      obtain ⟨p2, ws, rfl, t2, q2⟩ := rb.lst r eb
      refine op_cat pins s σ H _ _ v u Q I rx ry ⟨p1, p2, vs, ws, rfl, rfl, t1, t2, ?_, dl.lst r (q1.append q2)⟩
      rw [q1.length, q2.length]; exact Nat.le_trans hl lim_le
    · cases hz
  · cases hz
theorem opR_sub : OpR X (binaryOp .Sub) (rOp X.K subiD) := by
  intro pins s σ H x y v u Q I rx ry h
  obtain ⟨S, h, a, b, p, q, z, r, ra, rb, ea, eb, hz, dl⟩ := h
  unfold subiD at hz
  split at hz
  · cases hz
    exact op_sub pins s σ H x y v u Q I rx ry ⟨_, _, ra.int r ea, rb.int r eb, dl.int r⟩
  · cases hz
theorem flat_rep (n : Nat) (s : List Nat) : (List.replicate n s.toArray).foldl (· ++ ·) #[] = (repD n s).toArray := by
  have gen : ∀ (n : Nat) (acc : List Nat), (List.replicate n s.toArray).foldl (· ++ ·) acc.toArray = (acc ++ repD n s).toArray := by
    intro n
    induction n with
    | zero => intro acc; simp [repD]
    | succ n ih =>
      intro acc
      rw [List.replicate_succ, List.foldl_cons]
      have e : acc.toArray ++ s.toArray = (acc ++ s).toArray := by simp
      rw [e, ih]
      simp [repD, List.replicate_succ]
  have := gen n []
  simpa using this
theorem op_mulS : OpR X (binaryOp .Mult) (fun x y H Q => ∃ (s : List Nat) (k : Int), x = .str ⟨s.toArray⟩ ∧ y = .int k ∧ 0 ≤ k ∧ k ≤ 1000 ∧ s.length ≤ 1000 ∧ Q (.str ⟨(repD k.toNat s).toArray⟩) H) := by
  intro pins st σ H x y v u Q I rx ry h
  obtain ⟨s, k, rfl, rfl, h1, h2, h3, q⟩ := h
  obtain ⟨t, rfl⟩ := rx
  obtain ⟨t', rfl⟩ := ry
  have hln : (Str.mk s.toArray).length = s.length := by simp [Str.length]
  have hsm : s.length * k.toNat ≤ 1000 * 1000 := Nat.mul_le_mul h3 (by omega)
  refine PySem.P.mul_str ?_ ?_ ?_ ?_
  · rw [decide_eq_false (by omega), decide_eq_false (by omega)]; rfl
  · intro a b
    rw [hln]
    have hk : 0 < k := by omega
    have : (1000 : Int) ≤ (2 ^ 63 - 1) / k := by
      rw [Int.le_ediv_iff_mul_le hk]
      omega
    omega
  · intro a b
    rw [hln]
    unfold Builtin.Str.tooLong
    exact decide_eq_false (by rw [sizeLine_eq]; omega)
  · have fin : ∀ {z : Str} {tk : Tok} {n : Nat}, z = ⟨(repD k.toNat s).toArray⟩ → EP X pins σ Q (.str z tk) { st with toks := n } := fun {z tk n} e => ⟨.str ⟨(repD k.toNat s).toArray⟩, H, I.tok _, ⟨tk, by rw [e]⟩, q⟩
    by_cases c1 : k < 1
    · rw [if_pos c1]
      have e0 : k = 0 := by omega
      subst e0
      exact ⟨by decide, fin rfl⟩
    · rw [if_neg c1]
      by_cases c2 : (k == 1 || (Str.mk s.toArray).length == 0) = true
      · rw [if_pos c2]
        refine (show EP X pins σ Q (.str ⟨s.toArray⟩ t) st from ?_)
        refine ⟨.str ⟨(repD k.toNat s).toArray⟩, H, I, ⟨t, ?_⟩, q⟩
        congr 2
        rcases Bool.or_eq_true_iff.mp c2 with c | c
        · have : k = 1 := by simpa using c
          subst this
          simp [repD]
        · rw [hln] at c
          have : s = [] := by simpa using c
          subst this
          have : ∀ n : Nat, repD n ([] : List Nat) = [] := fun n => by simp [repD]
          rw [this]
      · rw [if_neg c2]
        refine ⟨?_, fin ?_⟩
        · show (Str.mk _).length ≤ sizeLine
          rw [flat_rep]
          have e : (repD k.toNat s).length = k.toNat * s.length := by simp [repD]
          simp only [Str.length, List.size_toArray, e]
          rw [sizeLine_eq, Nat.mul_comm]; omega
        · rw [flat_rep]
theorem opR_mul : OpR X (binaryOp .Mult) (rOp X.K mulD) := by
  intro pins s σ H x y v u Q I rx ry h
  obtain ⟨S, h, a, b, p, q, z, r, ra, rb, ea, eb, hz, dl⟩ := h
  unfold mulD at hz
  split at hz
  · split at hz
    · rename_i hl
      cases hz
      exact op_mul pins s σ H x y v u Q I rx ry ⟨_, _, ra.int r ea, rb.int r eb, .inl ⟨by omega, by omega⟩, dl.int r⟩
    · cases hz
  · split at hz
    · rename_i hl
      cases hz
      exact op_mulS pins s σ H x y v u Q I rx ry ⟨_, _, ra.str r ea, rb.int r eb, hl.1, hl.2.1, hl.2.2, dl.str r rfl⟩
    · cases hz
  · split at hz
    · rename_i hl
      cases hz
      obtain ⟨p1, vs, rfl, t1, q1⟩ := ra.tup r ea
      refine op_repT pins s σ H _ y v u Q I rx ry ⟨p1, _, vs, rfl, rb.int r eb, t1, ?_, hl.1, hl.2.1, ?_, dl.tup r (q1.rep _)⟩
      · intro e
        have := q1.length
        rw [e] at this
        have h4 := hl.2.2.2
        cases hs : (‹List D›) with
        | nil => rw [hs] at h4; simp at h4
        | cons _ _ => rw [hs] at this; simp at this
      · rw [q1.length]; exact hl.2.2.1
    · cases hz
  · split at hz
    · rename_i hl
      cases hz
      obtain ⟨p1, vs, rfl, t1, q1⟩ := ra.lst r ea
      refine op_rep pins s σ H _ y v u Q I rx ry ⟨p1, _, vs, rfl, rb.int r eb, t1, by omega, by omega, ?_, dl.lst r (q1.rep _)⟩
      rw [q1.length]
      refine Nat.le_trans (Nat.mul_le_mul hl.2.2 (show _ ≤ 1000 by omega)) ?_
      rw [sizeLine_eq]; omega
    · cases hz
  · cases hz
theorem opR_fdiv : OpR X (binaryOp .FloorDiv) (rOp X.K fdivD) := by
  intro pins s σ H x y v u Q I rx ry h
  obtain ⟨S, h, a, b, p, q, z, r, ra, rb, ea, eb, hz, dl⟩ := h
  unfold fdivD at hz
  split at hz
  · split at hz
    · rename_i hl
      cases hz
      exact op_fdiv pins s σ H x y v u Q I rx ry ⟨_, _, ra.int r ea, rb.int r eb, ⟨hl.1, by omega⟩, dl.int r⟩
    · cases hz
  · cases hz
theorem opR_mod : OpR X (binaryOp .Mod) (rOp X.K modD) := by
  intro pins s σ H x y v u Q I rx ry h
  obtain ⟨S, h, a, b, p, q, z, r, ra, rb, ea, eb, hz, dl⟩ := h
  unfold modD at hz
  split at hz
  · split at hz
    · rename_i hl
      cases hz
      exact op_mod pins s σ H x y v u Q I rx ry ⟨_, _, ra.int r ea, rb.int r eb, hl, dl.int r⟩
    · cases hz
  · cases hz
theorem opR_pow : OpR X (binaryOp .Pow) (rOp X.K powD) := by
  intro pins s σ H x y v u Q I rx ry h
  obtain ⟨S, h, a, b, p, q, z, r, ra, rb, ea, eb, hz, dl⟩ := h
  unfold powD at hz
  split at hz
  · split at hz
    · rename_i hl
      cases hz
      exact op_pow pins s σ H x y v u Q I rx ry ⟨_, _, ra.int r ea, rb.int r eb, ⟨hl.1, by omega, by omega⟩, dl.int r⟩
    · cases hz
  · cases hz
end
mutual
def toPy : D → PyData
  | .non => .none
  | .bl b => .bool b
  | .int i => .int i
  | .str s => .str ⟨s.toArray⟩
  | .tup xs => .tuple (toPys xs)
  | .lst xs => .list (toPys xs)
  | .opq _ => .none
  | .obj _ _ => .none
  | .dct _ => .none
def toPys : List D → List PyData
  | [] => []
  | x :: xs => toPy x :: toPys xs
end
mutual
theorem toPy_eqv : ∀ (n m : Nat) (x y : D), D.shp n x = true → D.shp m y = true → PyData.eqv (toPy x) (toPy y) = D.beq x y
  | n, m, .opq _, y, h, _ => by cases n <;> simp [D.shp] at h
  | n, m, x, .opq _, _, h => by cases m <;> simp [D.shp] at h
  | n, m, .obj _ _, y, h, _ => by cases n <;> simp [D.shp] at h
  | n, m, x, .obj _ _, _, h => by cases m <;> simp [D.shp] at h
  | n, m, .dct _, y, h, _ => by cases n <;> simp [D.shp] at h
  | n, m, x, .dct _, _, h => by cases m <;> simp [D.shp] at h
  | n, m, .non, .non, _, _ => by simp [toPy, PyData.eqv, D.beq]
  | n, m, .non, .bl _, _, _ => by simp [toPy, PyData.eqv, D.beq]
  | n, m, .non, .int _, _, _ => by simp [toPy, PyData.eqv, D.beq]
  | n, m, .non, .str _, _, _ => by simp [toPy, PyData.eqv, D.beq]
  | n, m, .non, .tup _, _, _ => by simp [toPy, PyData.eqv, D.beq]
  | n, m, .non, .lst _, _, _ => by simp [toPy, PyData.eqv, D.beq]
  | n, m, .bl _, .non, _, _ => by simp [toPy, PyData.eqv, D.beq]
  | n, m, .bl _, .bl _, _, _ => by simp [toPy, PyData.eqv, D.beq]
  | n, m, .bl _, .int _, _, _ => by simp [toPy, PyData.eqv, D.beq]
  | n, m, .bl _, .str _, _, _ => by simp [toPy, PyData.eqv, D.beq]
  | n, m, .bl _, .tup _, _, _ => by simp [toPy, PyData.eqv, D.beq]
  | n, m, .bl _, .lst _, _, _ => by simp [toPy, PyData.eqv, D.beq]
  | n, m, .int _, .non, _, _ => by simp [toPy, PyData.eqv, D.beq]
  | n, m, .int _, .bl _, _, _ => by simp [toPy, PyData.eqv, D.beq]
  | n, m, .int _, .int _, _, _ => by simp [toPy, PyData.eqv, D.beq]
  | n, m, .int _, .str _, _, _ => by simp [toPy, PyData.eqv, D.beq]
  | n, m, .int _, .tup _, _, _ => by simp [toPy, PyData.eqv, D.beq]
  | n, m, .int _, .lst _, _, _ => by simp [toPy, PyData.eqv, D.beq]
  | n, m, .str _, .non, _, _ => by simp [toPy, PyData.eqv, D.beq]
  | n, m, .str _, .bl _, _, _ => by simp [toPy, PyData.eqv, D.beq]
  | n, m, .str _, .int _, _, _ => by simp [toPy, PyData.eqv, D.beq]
  | n, m, .str s, .str t, _, _ => by
    simp only [toPy, PyData.eqv, D.beq]
    by_cases e : s = t
    · subst e; simp
    · rw [beq_eq_false_iff_ne.mpr e, beq_eq_false_iff_ne.mpr (fun z => e (by simpa using z))]
  | n, m, .str _, .tup _, _, _ => by simp [toPy, PyData.eqv, D.beq]
  | n, m, .str _, .lst _, _, _ => by simp [toPy, PyData.eqv, D.beq]
  | n, m, .tup _, .non, _, _ => by simp [toPy, PyData.eqv, D.beq]
  | n, m, .tup _, .bl _, _, _ => by simp [toPy, PyData.eqv, D.beq]
  | n, m, .tup _, .int _, _, _ => by simp [toPy, PyData.eqv, D.beq]
  | n, m, .tup _, .str _, _, _ => by simp [toPy, PyData.eqv, D.beq]
  | n + 1, m + 1, .tup xs, .tup ys, h1, h2 => by
    simp only [toPy, PyData.eqv, D.beq]
    simp only [D.shp] at h1 h2
    exact toPys_eqv n m xs ys h1 h2
  | 0, _, .tup _, _, h, _ => by simp [D.shp] at h
  | _, 0, _, .tup _, _, h => by simp [D.shp] at h
  | n, m, .tup _, .lst _, _, _ => by simp [toPy, PyData.eqv, D.beq]
  | n, m, .lst _, .non, _, _ => by simp [toPy, PyData.eqv, D.beq]
  | n, m, .lst _, .bl _, _, _ => by simp [toPy, PyData.eqv, D.beq]
  | n, m, .lst _, .int _, _, _ => by simp [toPy, PyData.eqv, D.beq]
  | n, m, .lst _, .str _, _, _ => by simp [toPy, PyData.eqv, D.beq]
  | n, m, .lst _, .tup _, _, _ => by simp [toPy, PyData.eqv, D.beq]
  | n + 1, m + 1, .lst xs, .lst ys, h1, h2 => by
    simp only [toPy, PyData.eqv, D.beq]
    simp only [D.shp] at h1 h2
    exact toPys_eqv n m xs ys h1 h2
  | 0, _, .lst _, _, h, _ => by simp [D.shp] at h
  | _, 0, _, .lst _, _, h => by simp [D.shp] at h
theorem toPys_eqv : ∀ (n m : Nat) (xs ys : List D), D.shps n xs = true → D.shps m ys = true → PyData.eqvAll (toPys xs) (toPys ys) = D.beqs xs ys
  | n, m, [], [], _, _ => by simp [toPys, PyData.eqvAll, D.beqs]
  | n, m, x :: xs, [], _, _ => by simp [toPys, PyData.eqvAll, D.beqs]
  | n, m, [], y :: ys, _, _ => by simp [toPys, PyData.eqvAll, D.beqs]
  | n, m, x :: xs, y :: ys, h1, h2 => by
    simp only [D.shps, Bool.and_eq_true] at h1 h2
    simp only [toPys, PyData.eqvAll, D.beqs]
    rw [toPy_eqv n m x y h1.1 h2.1, toPys_eqv n m xs ys h1.2 h2.2]
end
theorem asc_ok {s : List Nat} (h : asc s = true) : PyData.strOk ⟨s.toArray⟩ = true := by
  unfold PyData.strOk
  unfold asc at h
  simp only [List.all_eq_true] at h
  simp only [List.all_toArray, List.all_eq_true, decide_eq_true_eq]
  intro c hc
  have := h c hc
  have h2 : c < 128 := by simpa [Nat.blt_eq] using this
  omega
mutual
theorem shp_lay : ∀ (n : Nat) (x : D), D.shp n x = true → PyData.canLay0 (toPy x) = true ∧ (toPy x).depth ≤ n
  | n, .non, _ => by simp [toPy, PyData.canLay0, PyData.depth]
  | n, .bl _, _ => by simp [toPy, PyData.canLay0, PyData.depth]
  | n, .int _, _ => by simp [toPy, PyData.canLay0, PyData.depth]
  | n, .str s, h => by
    simp only [D.shp] at h
    simp only [toPy, PyData.canLay0, PyData.depth]
    exact ⟨asc_ok h, Nat.zero_le _⟩
  | n + 1, .tup xs, h => by
    simp only [D.shp] at h
    simp only [toPy, PyData.canLay0, PyData.depth]
    obtain ⟨a, b⟩ := shps_lay n xs h
    exact ⟨a, by omega⟩
  | n + 1, .lst xs, h => by
    simp only [D.shp] at h
    simp only [toPy, PyData.canLay0, PyData.depth]
    obtain ⟨a, b⟩ := shps_lay n xs h
    exact ⟨a, by omega⟩
  | 0, .tup xs, h => by simp [D.shp] at h
  | 0, .lst xs, h => by simp [D.shp] at h
  | n, .opq _, h => by cases n <;> simp [D.shp] at h
theorem shps_lay : ∀ (n : Nat) (xs : List D), D.shps n xs = true → PyData.canLayAll0 (toPys xs) = true ∧ PyData.depthAll (toPys xs) ≤ n
  | n, [], _ => by simp [toPys, PyData.canLayAll0, PyData.depthAll]
  | n, x :: xs, h => by
    simp only [D.shps, Bool.and_eq_true] at h
    obtain ⟨a, b⟩ := shp_lay n x h.1
    obtain ⟨c, d⟩ := shps_lay n xs h.2
    simp only [toPys, PyData.canLayAll0, PyData.depthAll, a, c, Bool.and_self, true_and]
    exact Nat.max_le.mpr ⟨b, d⟩
end
theorem shp_shaped {x : D} (h : D.shp 60 x = true) : SeqAt.shaped (toPy x) = true := by
  obtain ⟨a, b⟩ := shp_lay 60 x h
  unfold SeqAt.shaped
  rw [a, Bool.true_and]
  exact decide_eq_true (by omega)
section
variable {K : PySem.W.Frag} {S : Sg} {H : Hp} {h : Hq}
mutual
theorem RV.dp : ∀ (n : Nat) (d : D) (v : V), D.shp n d = true → RV K S H d v → Dp K H v (toPy d)
  | n, .non, v, _, q => by unfold RV at q; subst q; exact .non
  | n, .bl b, v, _, q => by unfold RV at q; subst q; exact .bl b
  | n, .int i, v, _, q => by unfold RV at q; subst q; exact .int i
  | n, .str s, v, _, q => by unfold RV at q; subst q; exact .str _
  | n + 1, .tup xs, v, hs, q => by
    unfold RV at q
    obtain ⟨a, vs, rfl, t, q⟩ := q
    simp only [D.shp] at hs
    exact .tup t (RVs.dp n xs vs hs q)
  | n + 1, .lst xs, v, hs, q => by
    unfold RV at q
    obtain ⟨a, vs, rfl, t, _, q⟩ := q
    simp only [D.shp] at hs
    exact .lst (SqL.of t) (RVs.dp n xs vs hs q)
  | 0, .tup xs, v, h, _ => by simp [D.shp] at h
  | 0, .lst xs, v, h, _ => by simp [D.shp] at h
  | n, .opq _, v, h, _ => by cases n <;> simp [D.shp] at h
theorem RVs.dp : ∀ (n : Nat) (ds : List D) (vs : List V), D.shps n ds = true → RVs K S H ds vs → DpAll K H vs (toPys ds)
  | n, [], vs, _, q => by rw [q.nil_iff]; exact .nil
  | n, d :: ds, vs, h, q => by
    simp only [D.shps, Bool.and_eq_true] at h
    obtain ⟨v, t, rfl, q1, q2⟩ := q.of_cons
    exact .cons (RV.dp n d v h.1 q1) (RVs.dp n ds t h.2 q2)
end
theorem RW.dp {a : Vv} {x : V} {d : D} (r : RelH K S H h) (q : RW K S H a x) (e : rdV h a = some d) (hs : D.shp 60 d = true) : Dp K H x (toPy d) := by
  rcases q.view r e with q | ⟨ds, p, vs, rfl, rfl, e3, q⟩ | ⟨c, ds, rfl⟩ | ⟨ds, _, _, _, rfl, _⟩
  · exact RV.dp 60 d x hs q
  · simp only [D.shp] at hs
    exact .lst (SqL.of e3) (RVs.dp 59 ds vs hs q)
  · simp [D.shp] at hs
  · simp [D.shp] at hs
theorem flatV_of {d : D} {v : V} (hf : d.isFlat = true) (q : RV K S H d v) : flatV v = true := by
  cases d <;> first | (simp [D.isFlat] at hf; done) | (unfold RV at q; subst q; rfl)
theorem eqV_of {d e : D} {v w : V} (hd : d.isFlat = true) (he : e.isFlat = true) (q : RV K S H d v) (r : RV K S H e w) : eqV v w = D.beq d e := by
  cases d <;> cases e <;> first
    | (simp [D.isFlat] at hd; done)
    | (simp [D.isFlat] at he; done)
    | (unfold RV at q r; subst q; subst r; simp [eqV, D.beq]; done)
    | (unfold RV at q r; subst q; subst r; simp only [eqV, D.beq]; rename_i s t; by_cases e : s = t; (subst e; simp); (rw [beq_eq_false_iff_ne.mpr e, beq_eq_false_iff_ne.mpr (fun z => e (by simpa using z))]))
theorem flatVs_of : ∀ {ds : List D} {vs : List V}, ds.all D.isFlat = true → RVs K S H ds vs → vs.all flatV = true
  | [], vs, _, q => by rw [q.nil_iff]; rfl
  | d :: ds, vs, hf, q => by
    obtain ⟨v, t, rfl, q1, q2⟩ := q.of_cons
    rw [List.all_cons, Bool.and_eq_true] at hf
    rw [List.all_cons, flatV_of hf.1 q1, flatVs_of hf.2 q2]; rfl
theorem inV_of {x : D} {y : V} (hx : x.isFlat = true) (q0 : RV K S H x y) : ∀ {ds : List D} {vs : List V}, ds.all D.isFlat = true → RVs K S H ds vs → inV y vs = inD x ds
  | [], vs, _, q => by rw [q.nil_iff]; rfl
  | d :: ds, vs, hf, q => by
    obtain ⟨v, t, rfl, q1, q2⟩ := q.of_cons
    rw [List.all_cons, Bool.and_eq_true] at hf
    have ih := inV_of hx q0 hf.2 q2
    unfold inV inD at ih ⊢
    rw [List.any_cons, List.any_cons, eqV_of hf.1 hx q1 q0, ih]
end
theorem ltS_eq : ∀ (s t : List Nat), decide (s < t) = ltS s t
  | [], [] => by simp [ltS]
  | a :: s, [] => by simp [ltS]
  | [], b :: t => by simp [ltS]
  | a :: s, b :: t => by
    unfold ltS
    have ih := ltS_eq s t
    by_cases h1 : a < b
    · rw [if_pos h1]
      exact decide_eq_true (List.cons_lt_cons_iff.mpr (.inl h1))
    · rw [if_neg h1]
      by_cases h2 : a = b
      · subst h2
        simp only [beq_self_eq_true, if_true]
        rw [← ih]
        by_cases h3 : s < t
        · rw [decide_eq_true h3]
          exact decide_eq_true (List.cons_lt_cons_iff.mpr (.inr ⟨rfl, h3⟩))
        · rw [decide_eq_false h3]
          refine decide_eq_false (fun z => ?_)
          rcases List.cons_lt_cons_iff.mp z with z | ⟨_, z⟩
          · exact h1 z
          · exact h3 z
      · rw [if_neg (by simpa using h2)]
        refine decide_eq_false (fun z => ?_)
        rcases List.cons_lt_cons_iff.mp z with z | ⟨z, _⟩
        · exact h1 z
        · exact h2 z
section
variable {X : Cx}
abbrev rCmp (K : PySem.W.Frag) (f : D → D → Option Bool) : R2 := rOp K fun x y => (f x y).map .bl
theorem opR_eq (hu : X.A.units + 64 < cLine) : OpR X (compareOp .Eq) (rCmp X.K eqD) := by
  intro pins s σ H x y v u Q I rx ry h
  obtain ⟨S, h, a, b, p, q, z, r, ra, rb, ea, eb, hz, dl⟩ := h
  simp only [eqD] at hz
  split at hz
  · rename_i hs
    rw [Bool.and_eq_true] at hs
    cases hz
    refine op_eqD hu pins s σ H x y v u Q I rx ry ⟨_, _, ra.dp r ea hs.1, rb.dp r eb hs.2, shp_shaped hs.1, shp_shaped hs.2, ?_⟩
    rw [toPy_eqv 60 60 p q hs.1 hs.2]
    exact dl.bl r
  · cases hz
theorem opR_ne (hu : X.A.units + 64 < cLine) : OpR X (compareOp .NotEq) (rCmp X.K fun x y => (eqD x y).map (!·)) := by
  intro pins s σ H x y v u Q I rx ry h
  obtain ⟨S, h, a, b, p, q, z, r, ra, rb, ea, eb, hz, dl⟩ := h
  simp only [eqD] at hz
  split at hz
  · rename_i hs
    rw [Bool.and_eq_true] at hs
    cases hz
    refine op_neD hu pins s σ H x y v u Q I rx ry ⟨_, _, ra.dp r ea hs.1, rb.dp r eb hs.2, shp_shaped hs.1, shp_shaped hs.2, ?_⟩
    rw [toPy_eqv 60 60 p q hs.1 hs.2]
    exact dl.bl r
  · cases hz
theorem opR_lt : OpR X (compareOp .Lt) (rCmp X.K ltD) := by
  intro pins s σ H x y v u Q I rx ry h
  obtain ⟨S, h, a, b, p, q, z, r, ra, rb, ea, eb, hz, dl⟩ := h
  simp only [ltD] at hz
  split at hz
  · cases hz
    exact op_lt pins s σ H x y v u Q I rx ry ⟨_, _, ra.int r ea, rb.int r eb, dl.bl r⟩
  · cases hz
    refine op_lt_str pins s σ H x y v u Q I rx ry ⟨_, _, ra.str r ea, rb.str r eb, ?_⟩
    simp only [List.toList_toArray]
    rw [ltS_eq]
    exact dl.bl r
  · cases hz
theorem opR_gt : OpR X (compareOp .Gt) (rCmp X.K gtD) := by
  intro pins s σ H x y v u Q I rx ry h
  obtain ⟨S, h, a, b, p, q, z, r, ra, rb, ea, eb, hz, dl⟩ := h
  simp only [gtD] at hz
  split at hz
  · cases hz
    exact op_gt pins s σ H x y v u Q I rx ry ⟨_, _, ra.int r ea, rb.int r eb, dl.bl r⟩
  · cases hz
    refine op_gt_str pins s σ H x y v u Q I rx ry ⟨_, _, ra.str r ea, rb.str r eb, ?_⟩
    simp only [List.toList_toArray]
    rw [ltS_eq]
    exact dl.bl r
  · cases hz
theorem opR_le : OpR X (compareOp .LtE) (rCmp X.K leD) := by
  intro pins s σ H x y v u Q I rx ry h
  obtain ⟨S, h, a, b, p, q, z, r, ra, rb, ea, eb, hz, dl⟩ := h
  simp only [leD] at hz
  split at hz
  · cases hz
    exact op_le pins s σ H x y v u Q I rx ry ⟨_, _, ra.int r ea, rb.int r eb, dl.bl r⟩
  · cases hz
theorem opR_ge : OpR X (compareOp .GtE) (rCmp X.K fun x y => leD y x) := by
  intro pins s σ H x y v u Q I rx ry h
  obtain ⟨S, h, a, b, p, q, z, r, ra, rb, ea, eb, hz, dl⟩ := h
  simp only [leD] at hz
  split at hz
  · cases hz
    exact op_ge pins s σ H x y v u Q I rx ry ⟨_, _, ra.int r ea, rb.int r eb, dl.bl r⟩
  · cases hz
theorem isN_of {K : PySem.W.Frag} {S : Sg} {H : Hp} {h : Hq} {a : Vv} {x : V} {p : D} {k : Bool} (r : RelH K S H h) (ra : RW K S H a x) (ea : rdV h a = some p) (e : isD p .non = some k) : decide (x = .non) = k := by
  rcases ra.view r ea with q | ⟨ds, c, vs, rfl, rfl, _⟩ | ⟨c, ds, rfl⟩ | ⟨ds, _, _, _, rfl, _⟩
  · cases p <;> first
      | (simp [isD] at e; done)
      | (unfold RV at q; subst q; simp [isD] at e; subst e; decide)
      | (unfold RV at q; obtain ⟨c, vs, rfl, _⟩ := q; simp [isD] at e; subst e; exact decide_eq_false (fun z => nomatch z))
      | (unfold RV at q; subst q; simp [isD] at e; subst e; exact decide_eq_false (fun z => nomatch z))
  · simp [isD] at e; subst e; exact decide_eq_false (fun z => nomatch z)
  · simp [isD] at e
  · simp [isD] at e
theorem isD_right {x y : D} {k : Bool} (e : isD x y = some k) : y = .non ∨ ∃ b, y = .bl b := by
  cases x <;> cases y <;> first | exact .inl rfl | exact .inr ⟨_, rfl⟩ | (simp [isD] at e)
theorem isB_of {K : PySem.W.Frag} {S : Sg} {H : Hp} {h : Hq} {a : Vv} {x : V} {v : Value} {p : D} {k b : Bool} (r : RelH K S H h) (ra : RW K S H a x) (ea : rdV h a = some p) (rx : RelV x v) (e : isD p (.bl b) = some k) : plainIs v (.bool b) = true ∧ (v == .bool b) = k := by
  rcases ra.view r ea with q | ⟨ds, c, vs, rfl, rfl, _⟩ | ⟨c, ds, rfl⟩ | ⟨ds, _, _, _, rfl, _⟩
  · cases p with
    | non => unfold RV at q; subst q; cases rx; simp [isD] at e; subst e; exact ⟨rfl, rfl⟩
    | bl c =>
      unfold RV at q; subst q; cases (show v = Value.bool c from rx); simp [isD] at e; subst e
      exact ⟨rfl, by cases c <;> cases b <;> decide⟩
    | int i => unfold RV at q; subst q; obtain ⟨t, rfl⟩ := (show ∃ t, v = Value.int i t from rx); simp [isD] at e; subst e; exact ⟨rfl, beq_eq_false_iff_ne.mpr (fun z => nomatch z)⟩
    | str s => unfold RV at q; subst q; obtain ⟨t, rfl⟩ := (show ∃ t, v = Value.str _ t from rx); simp [isD] at e; subst e; exact ⟨rfl, beq_eq_false_iff_ne.mpr (fun z => nomatch z)⟩
    | tup _ => simp [isD] at e
    | lst _ => simp [isD] at e
    | opq _ => simp [isD] at e
    | obj _ _ => simp [isD] at e
    | dct _ => simp [isD] at e
  · simp [isD] at e
  · simp [isD] at e
  · simp [isD] at e
theorem opR_is : OpR X (compareOp .Is) (rCmp X.K isD) := by
  intro pins s σ H x y v u Q I rx ry h
  obtain ⟨S, h, a, b, p, q, z, r, ra, rb, ea, eb, hz, dl⟩ := h
  obtain ⟨k, hk, rfl⟩ := Option.map_eq_some_iff.mp hz
  rcases isD_right hk with rfl | ⟨c, rfl⟩
  · refine op_isN pins s σ H x y v u Q I rx ry ⟨rb.non r eb, ?_⟩
    rw [isN_of r ra ea hk]
    exact dl.bl r
  · obtain rfl := rb.bl r eb
    cases (show u = Value.bool c from ry)
    obtain ⟨h1, h2⟩ := isB_of r ra ea rx hk
    exact wpAny_is_plain h1 ⟨.bl k, H, I, by rw [h2]; rfl, dl.bl r⟩
theorem opR_isn : OpR X (compareOp .IsNot) (rCmp X.K fun x y => (isD x y).map (!·)) := by
  intro pins s σ H x y v u Q I rx ry h
  obtain ⟨S, h, a, b, p, q, z, r, ra, rb, ea, eb, hz, dl⟩ := h
  obtain ⟨k', hk', rfl⟩ := Option.map_eq_some_iff.mp hz
  obtain ⟨k, hk, rfl⟩ := Option.map_eq_some_iff.mp hk'
  rcases isD_right hk with rfl | ⟨c, rfl⟩
  · refine op_notN pins s σ H x y v u Q I rx ry ⟨rb.non r eb, ?_⟩
    rw [isN_of r ra ea hk]
    exact dl.bl r
  · obtain rfl := rb.bl r eb
    cases (show u = Value.bool c from ry)
    obtain ⟨h1, h2⟩ := isB_of r ra ea rx hk
    exact wpAny_isNot_plain h1 ⟨.bl (!k), H, I, by rw [h2]; rfl, dl.bl r⟩
theorem RW.flat {K : PySem.W.Frag} {S : Sg} {H : Hp} {h : Hq} {a : Vv} {x : V} {p : D} (r : RelH K S H h) (ra : RW K S H a x) (ea : rdV h a = some p) (hf : p.isFlat = true) : RV K S H p x :=
  ra.dat r ea (fun ds e => by subst e; simp [D.isFlat] at hf) (fun c ds e => by subst e; simp [D.isFlat] at hf) (fun ds e => by subst e; simp [D.isFlat] at hf)
theorem mem_any (c : Nat) : ∀ t : List Nat, decide (c ∈ (Str.mk t.toArray).cps.toList) = t.any (· == c)
  | [] => rfl
  | d :: t => by
    have ih := mem_any c t
    simp only [List.toList_toArray] at ih ⊢
    rw [List.any_cons]
    by_cases hd : d = c
    · subst hd; simp
    · rw [beq_eq_false_iff_ne.mpr hd, Bool.false_or, ← ih]
      simp [List.mem_cons, Ne.symm hd]
theorem inD_py {x : D} {n : Nat} (hx : D.shp n x = true) : ∀ {m : Nat} {ys : List D}, D.shps m ys = true → ((toPys ys).any fun z => PyData.eqv z (toPy x)) = inD x ys
  | m, [], _ => rfl
  | m, y :: ys, h => by
    rw [D.shps, Bool.and_eq_true] at h
    have ih := inD_py hx h.2
    unfold inD at ih ⊢
    rw [toPys, List.any_cons, List.any_cons, toPy_eqv m n y x h.1 hx, ih]
theorem op_inT (hu : X.A.units + 65 < cLine) : OpR X (compareOp .In) (fun x y H Q => ∃ d ds, Dp X.K H x d ∧ Dp X.K H y (.tuple ds) ∧ SeqAt.shaped d = true ∧ SeqAt.shaped (.tuple ds) = true ∧ Q (.bl (ds.any fun z => PyData.eqv z d)) H) := by
  intro pins s σ H x y v u Q I rx ry h
  obtain ⟨d, ds, hd, he, sd, se, q⟩ := h
  obtain ⟨as, r1⟩ := Dp.reads I d x v hd rx
  obtain ⟨bs, r2⟩ := Dp.reads I (.tuple ds) y u he ry
  exact SeqAt.in_tuple_reads r2 r1 (SeqAt.canLay_of_shaped se) (SeqAt.canLay_of_shaped sd) (room_in_shaped sd hu) ⟨.bl _, H, I, rfl, q⟩
theorem op_notInT (hu : X.A.units + 65 < cLine) : OpR X (compareOp .NotIn) (fun x y H Q => ∃ d ds, Dp X.K H x d ∧ Dp X.K H y (.tuple ds) ∧ SeqAt.shaped d = true ∧ SeqAt.shaped (.tuple ds) = true ∧ Q (.bl (!ds.any fun z => PyData.eqv z d)) H) := by
  intro pins s σ H x y v u Q I rx ry h
  obtain ⟨d, ds, hd, he, sd, se, q⟩ := h
  obtain ⟨as, r1⟩ := Dp.reads I d x v hd rx
  obtain ⟨bs, r2⟩ := Dp.reads I (.tuple ds) y u he ry
  exact SeqAt.notIn_tuple_reads r2 r1 (SeqAt.canLay_of_shaped se) (SeqAt.canLay_of_shaped sd) (room_in_shaped sd hu) ⟨.bl _, H, I, rfl, q⟩
theorem inR (neg : Bool) {op : CmpOp} (ho : OpR X (compareOp op) (rIn X.K neg)) (hs : OpR X (compareOp op) (fun x y H Q => ∃ (c : Nat) (z : Str), x = .str ⟨#[c]⟩ ∧ y = .str z ∧ Q (.bl (if neg then !decide (c ∈ z.cps.toList) else decide (c ∈ z.cps.toList))) H))
    (ht : OpR X (compareOp op) (fun x y H Q => ∃ d ds, Dp X.K H x d ∧ Dp X.K H y (.tuple ds) ∧ SeqAt.shaped d = true ∧ SeqAt.shaped (.tuple ds) = true ∧ Q (.bl (if neg then !(ds.any fun z => PyData.eqv z d) else ds.any fun z => PyData.eqv z d)) H))
    (hl : OpR X (compareOp op) (fun x y H Q => ∃ d ds, Dp X.K H x d ∧ Dp X.K H y (.list ds) ∧ SeqAt.shaped d = true ∧ SeqAt.shaped (.list ds) = true ∧ Q (.bl (if neg then !(ds.any fun z => PyData.eqv z d) else ds.any fun z => PyData.eqv z d)) H)) :
    OpR X (compareOp op) (rCmp X.K fun x y => (isinD x y).map fun k => if neg then !k else k) := by
  intro pins s σ H x y v u Q I rx ry h
  obtain ⟨S, h, a, b, p, q, z, r, ra, rb, ea, eb, hz, dl⟩ := h
  obtain ⟨k', hk', rfl⟩ := Option.map_eq_some_iff.mp hz
  obtain ⟨k, hk, rfl⟩ := Option.map_eq_some_iff.mp hk'
  unfold isinD at hk
  split at hk
  · split at hk
    · rename_i hf
      rw [Bool.and_eq_true] at hf
      cases hk
      obtain ⟨p2, ws, rfl, t2, q2⟩ := rb.tup r eb
      have qa := ra.flat r ea hf.1
      refine ho pins s σ H x _ v u Q I rx ry ⟨p2, ws, rfl, .inr t2, flatV_of hf.1 qa, flatVs_of hf.2 q2, ?_⟩
      rw [inV_of hf.1 qa hf.2 q2]
      exact dl.bl r
    · split at hk
      · rename_i ys hf1 hf
        rw [Bool.and_eq_true] at hf
        cases hk
        have h1 := ra.dp r ea hf.1
        have h2 := rb.dp r eb hf.2
        have h3 := shp_shaped hf.1
        have h4 := shp_shaped hf.2
        unfold toPy at h2 h4
        refine ht pins s σ H x y v u Q I rx ry ⟨_, _, h1, h2, h3, h4, ?_⟩
        rw [inD_py hf.1 (m := 59) hf.2]
        exact dl.bl r
      · cases hk
  · split at hk
    · rename_i hf
      rw [Bool.and_eq_true] at hf
      cases hk
      obtain ⟨p2, ws, rfl, t2, q2⟩ := rb.lst r eb
      have qa := ra.flat r ea hf.1
      refine ho pins s σ H x _ v u Q I rx ry ⟨p2, ws, rfl, .inl (SqL.of t2), flatV_of hf.1 qa, flatVs_of hf.2 q2, ?_⟩
      rw [inV_of hf.1 qa hf.2 q2]
      exact dl.bl r
    · split at hk
      · rename_i ys hf1 hf
        rw [Bool.and_eq_true] at hf
        cases hk
        have h1 := ra.dp r ea hf.1
        have h2 := rb.dp r eb hf.2
        have h3 := shp_shaped hf.1
        have h4 := shp_shaped hf.2
        unfold toPy at h2 h4
        refine hl pins s σ H x y v u Q I rx ry ⟨_, _, h1, h2, h3, h4, ?_⟩
        rw [inD_py hf.1 (m := 59) hf.2]
        exact dl.bl r
      · cases hk
  · cases hk
    refine hs pins s σ H x y v u Q I rx ry ⟨_, _, ra.str r ea, rb.str r eb, ?_⟩
    rename_i c t
    rw [mem_any c t]
    exact dl.bl r
  · cases hk
theorem opR_in (hu : X.A.units + 65 < cLine) : OpR X (compareOp .In) (rCmp X.K isinD) := by
  have h := inR (X := X) false op_in_seq (by
    intro pins s σ H x y v u Q I rx ry h
    exact op_in_sign pins s σ H x y v u Q I rx ry h) (op_inT hu) (op_inD hu)
  have e : (fun x y => (isinD x y).map fun k => if false then !k else k) = isinD := by
    funext x y
    cases isinD x y <;> rfl
  simp only [Bool.false_eq_true, if_false] at h
  have e2 : (fun x y => (isinD x y).map fun k => k) = isinD := by
    funext x y
    cases isinD x y <;> rfl
  rw [e2] at h
  exact h
theorem opR_nin (hu : X.A.units + 65 < cLine) : OpR X (compareOp .NotIn) (rCmp X.K fun x y => (isinD x y).map (!·)) := by
  have h := inR (X := X) true op_notIn_seq (by
    intro pins s σ H x y v u Q I rx ry h
    exact op_notIn_sign pins s σ H x y v u Q I rx ry h) (op_notInT hu) (op_notInD hu)
  simp only [if_true] at h
  exact h
end
end Bk
namespace Bk
open PySem PySem.Spec PyProof.Rows L2
def CmpIn (prog : Program) (w : World) (A : Around) (op : CmpOp) (P : Nat → Value → Prop) (St : Nat → Heap → Prop) (bt : Nat → Nat → Bool) : Prop :=
  ∀ m i j vi vj (s : Shared) (Q : Value → Shared → Prop) (E : Value → Shared → Prop), St m s.heap → P i vi → P j vj → Q (.bool (bt i j)) s → wpAny (model prog w) A (richCompare op vi vj) Q E s
section
variable {prog : Program} {w : World} {A : Around} {R : Result → Shared → Prop} {I : Addr} {fp wr : List Addr} {n : Nat} {P : Nat → Value → Prop} {St : Nat → Heap → Prop}
theorem min_turns (W : Walks prog w A.in1 I fp wr n P St) (bt : Nat → Nat → Bool) (hc : CmpIn prog w A.in1 .Lt P St bt) (S : Addr) (hf : S ∉ fp) : ∀ (m j : Nat) (s : Shared) (vb : Value) (c : Nat), n - (j + 1) = m → j + 1 ≤ n → St (j + 1) s.heap → P (argBest bt j) vb →
    s.heap.get? S = some ⟨.type "list", none, .seq #[vb, vb] c, #[]⟩ → (∀ v g tk, P (argBest bt (n - 1)) v → (∀ b o, b ∉ wr → b ≠ S → s.heap.get? b = some o → g.get? b = some o) → R (.ok (.ret v)) { s with heap := g, toks := tk }) → codeAny (model prog w) A (.builtin "min.loop" ⟨[.ref I, .none, .ref S], []⟩) R s
  | 0, j, s, vb, c, hm, hj, st, pb, hS, fin => by
    have hw : S ∉ wr := fun z => hf (W.sub _ z)
    have ej : j + 1 = n := by omega
    refine codeAny_builtin PySem.F.entry_min_loop (by
      rw [Around.under_plainId PySem.F.plain_min_loop _]
      show wpAny _ A.in1 (seqItems? (.ref S) >>= _) _ _ s
      exact wpAny_bind (wpAny_seqItems hS rfl (by
        show wpAny _ A.in1 (tryCatch (pyNext (.ref I)) _ >>= _) _ _ s
        exact wpAny_bind (wpAny_tryCatch (W.done s _ _ (by rw [← ej]; exact st) fun g tk kp => by
          show wpAny _ A.in1 (updateSeq S (fun _ => #[]) >>= _) _ _ _
          exact wpAny_bind (wpAny_updateSeq (kp S _ hw hS) rfl (wpAny_bind (wpAny_letGo (wpAny_pure (fin vb _ tk (by rw [← ej]; exact pb) fun b o b1 b2 e => (Heap.get?_update_other _ _ (Ne.symm b2)).trans (kp b o b1 e)))))))))))
  | m + 1, j, s, vb, c, hm, hj, st, pb, hS, fin => by
    have hw : S ∉ wr := fun z => hf (W.sub _ z)
    have lt : j + 1 < n := by omega
    have nm : (toString "min" ++ toString ".loop" : String) = "min.loop" := by decide
    refine codeAny_builtin PySem.F.entry_min_loop (by
      rw [Around.under_plainId PySem.F.plain_min_loop _]
      show wpAny _ A.in1 (seqItems? (.ref S) >>= _) _ _ s
      exact wpAny_bind (wpAny_seqItems hS rfl (by
        show wpAny _ A.in1 (tryCatch (pyNext (.ref I)) _ >>= _) _ _ s
        refine wpAny_bind (wpAny_tryCatch (W.item (j + 1) s _ _ lt st fun v g tk pv st2 kp => ?_))
        have hS2 := kp S _ hw hS
        show wpAny _ A.in1 (tryCatch (holding [v, v] (richCompare .Lt v vb >>= _)) _ >>= _) _ _ _
        refine wpAny_bind (wpAny_tryCatch (wpAny_holding (wpAny_bind (hc (j + 1 + 1) (j + 1) (argBest bt j) v vb _ _ _ st2 pv pb (wpAny_bind (wpAny_holding (wpAny_truthy_bool (wpAny_bind (wpAny_letGo (wpAny_pure ?_))))))))))
        cases hb : bt (j + 1) (argBest bt j) with
        | true =>
          rw [if_pos rfl]
          refine wpAny_bind (wpAny_updateSeq hS2 rfl (wpAny_bind (wpAny_letGo ?_)))
          rw [nm]
          refine wpAny_pure ⟨plainId_quiet PySem.F.plain_min_loop _, min_turns W bt hc S hf m (j + 1) _ v _ (by omega) lt (W.frame _ _ _ st2 fun b bf o e => (Heap.get?_update_other _ _ (fun z : S = b => hf (by rw [z]; exact bf))).trans e) (by unfold argBest; rw [hb, if_pos rfl]; exact pv) (Heap.get?_update_self _ hS2 rfl) fun v' g' tk' p' k' => ?_⟩
          exact fin v' g' tk' p' fun b o b1 b2 e => k' b o b1 b2 ((Heap.get?_update_other _ _ (Ne.symm b2)).trans (kp b o b1 e))
        | false =>
          rw [if_neg Bool.false_ne_true]
          refine wpAny_bind (wpAny_letGo ?_)
          rw [nm]
          refine wpAny_pure ⟨plainId_quiet PySem.F.plain_min_loop _, min_turns W bt hc S hf m (j + 1) _ vb c (by omega) lt st2 (by unfold argBest; rw [hb, if_neg Bool.false_ne_true]; exact pb) hS2 fun v' g' tk' p' k' => ?_⟩
          exact fin v' g' tk' p' fun b o b1 b2 e => k' b o b1 b2 (kp b o b1 e))))
theorem min_begins (W : Walks prog w A.in1 I fp wr n P St) (bt : Nat → Nat → Bool) (hc : CmpIn prog w A.in1 .Lt P St bt) (S : Addr) (hf : S ∉ fp) (hn : 0 < n) {s : Shared} {c : Nat} (st : St 0 s.heap) (hS : s.heap.get? S = some ⟨.type "list", none, .seq #[] c, #[]⟩)
    (fin : ∀ v g tk, P (argBest bt (n - 1)) v → (∀ b o, b ∉ wr → b ≠ S → s.heap.get? b = some o → g.get? b = some o) → R (.ok (.ret v)) { s with heap := g, toks := tk }) : codeAny (model prog w) A (.builtin "min.loop" ⟨[.ref I, .none, .ref S], []⟩) R s := by
  have hw : S ∉ wr := fun z => hf (W.sub _ z)
  have nm : (toString "min" ++ toString ".loop" : String) = "min.loop" := by decide
  refine codeAny_builtin PySem.F.entry_min_loop (by
    rw [Around.under_plainId PySem.F.plain_min_loop _]
    show wpAny _ A.in1 (seqItems? (.ref S) >>= _) _ _ s
    exact wpAny_bind (wpAny_seqItems hS rfl (by
      show wpAny _ A.in1 (tryCatch (pyNext (.ref I)) _ >>= _) _ _ s
      refine wpAny_bind (wpAny_tryCatch (W.item 0 s _ _ hn st fun v g tk pv st2 kp => ?_))
      have hS2 := kp S _ hw hS
      show wpAny _ A.in1 (updateSeq S (fun _ => #[v, v]) >>= _) _ _ _
      refine wpAny_bind (wpAny_updateSeq hS2 rfl ?_)
      rw [nm]
      refine wpAny_pure ⟨plainId_quiet PySem.F.plain_min_loop _, min_turns W bt hc S hf _ 0 _ v _ rfl hn (W.frame _ _ _ st2 fun b bf o e => (Heap.get?_update_other _ _ (fun z : S = b => hf (by rw [z]; exact bf))).trans e) pv (Heap.get?_update_self _ hS2 rfl) fun v' g' tk' p' k' => ?_⟩
      exact fin v' g' tk' p' fun b o b1 b2 e => k' b o b1 b2 ((Heap.get?_update_other _ _ (Ne.symm b2)).trans (kp b o b1 e)))))
theorem min_walk {x : Value} {Q : Value → Shared → Prop} {E : Value → Shared → Prop} {s : Shared} (h : wpAny (model prog w) A.in1 (pyIter x) (fun it s2 => ∃ I fp wr n P St bt, it = .ref I ∧ Walks prog w A.in1 I fp wr n P St ∧ St 0 s2.heap ∧ (∀ b ∈ fp, b < s2.heap.objs.size) ∧ 0 < n ∧ CmpIn prog w A.in1 .Lt P St bt ∧
      ∀ v g tk, P (argBest bt (n - 1)) v → (∀ b o, b ∉ wr → s2.heap.get? b = some o → g.get? b = some o) → Q v { s2 with heap := g, toks := tk }) E s) : wpAny (model prog w) A (call (.builtin "min") [x]) Q E s := by
  have nm : (toString "min" ++ toString ".loop" : String) = "min.loop" := by decide
  refine call_function_tree PySem.F.kind_min PySem.F.plain_min PySem.F.entry_min (PySem.F.args_min1 _) (by
    show wpAny _ A.in1 (Builtin.Builtins.bindParams "min" ["key", "default"] 0 ⟨[], []⟩ >>= _) _ _ s
    refine wpAny_bind (wpAny_of_eq (show Builtin.Builtins.bindParams "min" ["key", "default"] 0 ⟨[], []⟩ = pure [none, none] from rfl) (wpAny_bind (wpAny_pure (wpAny_bind (wpAny_mono h (fun it s2 z => ?_) fun _ _ e => e)))))
    obtain ⟨I, fp, wr, n, P, St, bt, rfl, W, st, low, hn, hc, fin⟩ := z
    refine wpAny_bind (wpAny_newObj_type ?_)
    have hf : s2.heap.objs.size ∉ fp := fun z => Nat.lt_irrefl _ (low _ z)
    rw [nm]
    refine wpAny_pure ⟨plainId_quiet PySem.F.plain_min_loop _, min_begins W bt hc s2.heap.objs.size hf hn (W.frame _ _ _ st fun b _ o e => Heap.get?_push_of_some _ e) (Heap.get?_push_size _ rfl) fun v g tk p k => ?_⟩
    exact fin v g tk p fun b o b1 e => k b o b1 (Nat.ne_of_lt (Heap.lt_size e)) (Heap.get?_push_of_some _ e))
theorem max_turns (W : Walks prog w A.in1 I fp wr n P St) (bt : Nat → Nat → Bool) (hc : CmpIn prog w A.in1 .Gt P St bt) (S : Addr) (hf : S ∉ fp) : ∀ (m j : Nat) (s : Shared) (vb : Value) (c : Nat), n - (j + 1) = m → j + 1 ≤ n → St (j + 1) s.heap → P (argBest bt j) vb →
    s.heap.get? S = some ⟨.type "list", none, .seq #[vb, vb] c, #[]⟩ → (∀ v g tk, P (argBest bt (n - 1)) v → (∀ b o, b ∉ wr → b ≠ S → s.heap.get? b = some o → g.get? b = some o) → R (.ok (.ret v)) { s with heap := g, toks := tk }) → codeAny (model prog w) A (.builtin "max.loop" ⟨[.ref I, .none, .ref S], []⟩) R s
  | 0, j, s, vb, c, hm, hj, st, pb, hS, fin => by
    have hw : S ∉ wr := fun z => hf (W.sub _ z)
    have ej : j + 1 = n := by omega
    refine codeAny_builtin PySem.F.entry_max_loop (by
      rw [Around.under_plainId PySem.F.plain_max_loop _]
      show wpAny _ A.in1 (seqItems? (.ref S) >>= _) _ _ s
      exact wpAny_bind (wpAny_seqItems hS rfl (by
        show wpAny _ A.in1 (tryCatch (pyNext (.ref I)) _ >>= _) _ _ s
        exact wpAny_bind (wpAny_tryCatch (W.done s _ _ (by rw [← ej]; exact st) fun g tk kp => by
          show wpAny _ A.in1 (updateSeq S (fun _ => #[]) >>= _) _ _ _
          exact wpAny_bind (wpAny_updateSeq (kp S _ hw hS) rfl (wpAny_bind (wpAny_letGo (wpAny_pure (fin vb _ tk (by rw [← ej]; exact pb) fun b o b1 b2 e => (Heap.get?_update_other _ _ (Ne.symm b2)).trans (kp b o b1 e)))))))))))
  | m + 1, j, s, vb, c, hm, hj, st, pb, hS, fin => by
    have hw : S ∉ wr := fun z => hf (W.sub _ z)
    have lt : j + 1 < n := by omega
    have nm : (toString "max" ++ toString ".loop" : String) = "max.loop" := by decide
    refine codeAny_builtin PySem.F.entry_max_loop (by
      rw [Around.under_plainId PySem.F.plain_max_loop _]
      show wpAny _ A.in1 (seqItems? (.ref S) >>= _) _ _ s
      exact wpAny_bind (wpAny_seqItems hS rfl (by
        show wpAny _ A.in1 (tryCatch (pyNext (.ref I)) _ >>= _) _ _ s
        refine wpAny_bind (wpAny_tryCatch (W.item (j + 1) s _ _ lt st fun v g tk pv st2 kp => ?_))
        have hS2 := kp S _ hw hS
        show wpAny _ A.in1 (tryCatch (holding [v, v] (richCompare .Gt v vb >>= _)) _ >>= _) _ _ _
        refine wpAny_bind (wpAny_tryCatch (wpAny_holding (wpAny_bind (hc (j + 1 + 1) (j + 1) (argBest bt j) v vb _ _ _ st2 pv pb (wpAny_bind (wpAny_holding (wpAny_truthy_bool (wpAny_bind (wpAny_letGo (wpAny_pure ?_))))))))))
        cases hb : bt (j + 1) (argBest bt j) with
        | true =>
          rw [if_pos rfl]
          refine wpAny_bind (wpAny_updateSeq hS2 rfl (wpAny_bind (wpAny_letGo ?_)))
          rw [nm]
          refine wpAny_pure ⟨plainId_quiet PySem.F.plain_max_loop _, max_turns W bt hc S hf m (j + 1) _ v _ (by omega) lt (W.frame _ _ _ st2 fun b bf o e => (Heap.get?_update_other _ _ (fun z : S = b => hf (by rw [z]; exact bf))).trans e) (by unfold argBest; rw [hb, if_pos rfl]; exact pv) (Heap.get?_update_self _ hS2 rfl) fun v' g' tk' p' k' => ?_⟩
          exact fin v' g' tk' p' fun b o b1 b2 e => k' b o b1 b2 ((Heap.get?_update_other _ _ (Ne.symm b2)).trans (kp b o b1 e))
        | false =>
          rw [if_neg Bool.false_ne_true]
          refine wpAny_bind (wpAny_letGo ?_)
          rw [nm]
          refine wpAny_pure ⟨plainId_quiet PySem.F.plain_max_loop _, max_turns W bt hc S hf m (j + 1) _ vb c (by omega) lt st2 (by unfold argBest; rw [hb, if_neg Bool.false_ne_true]; exact pb) hS2 fun v' g' tk' p' k' => ?_⟩
          exact fin v' g' tk' p' fun b o b1 b2 e => k' b o b1 b2 (kp b o b1 e))))
theorem max_begins (W : Walks prog w A.in1 I fp wr n P St) (bt : Nat → Nat → Bool) (hc : CmpIn prog w A.in1 .Gt P St bt) (S : Addr) (hf : S ∉ fp) (hn : 0 < n) {s : Shared} {c : Nat} (st : St 0 s.heap) (hS : s.heap.get? S = some ⟨.type "list", none, .seq #[] c, #[]⟩)
    (fin : ∀ v g tk, P (argBest bt (n - 1)) v → (∀ b o, b ∉ wr → b ≠ S → s.heap.get? b = some o → g.get? b = some o) → R (.ok (.ret v)) { s with heap := g, toks := tk }) : codeAny (model prog w) A (.builtin "max.loop" ⟨[.ref I, .none, .ref S], []⟩) R s := by
  have hw : S ∉ wr := fun z => hf (W.sub _ z)
  have nm : (toString "max" ++ toString ".loop" : String) = "max.loop" := by decide
  refine codeAny_builtin PySem.F.entry_max_loop (by
    rw [Around.under_plainId PySem.F.plain_max_loop _]
    show wpAny _ A.in1 (seqItems? (.ref S) >>= _) _ _ s
    exact wpAny_bind (wpAny_seqItems hS rfl (by
      show wpAny _ A.in1 (tryCatch (pyNext (.ref I)) _ >>= _) _ _ s
      refine wpAny_bind (wpAny_tryCatch (W.item 0 s _ _ hn st fun v g tk pv st2 kp => ?_))
      have hS2 := kp S _ hw hS
      show wpAny _ A.in1 (updateSeq S (fun _ => #[v, v]) >>= _) _ _ _
      refine wpAny_bind (wpAny_updateSeq hS2 rfl ?_)
      rw [nm]
      refine wpAny_pure ⟨plainId_quiet PySem.F.plain_max_loop _, max_turns W bt hc S hf _ 0 _ v _ rfl hn (W.frame _ _ _ st2 fun b bf o e => (Heap.get?_update_other _ _ (fun z : S = b => hf (by rw [z]; exact bf))).trans e) pv (Heap.get?_update_self _ hS2 rfl) fun v' g' tk' p' k' => ?_⟩
      exact fin v' g' tk' p' fun b o b1 b2 e => k' b o b1 b2 ((Heap.get?_update_other _ _ (Ne.symm b2)).trans (kp b o b1 e)))))
theorem max_walk {x : Value} {Q : Value → Shared → Prop} {E : Value → Shared → Prop} {s : Shared} (h : wpAny (model prog w) A.in1 (pyIter x) (fun it s2 => ∃ I fp wr n P St bt, it = .ref I ∧ Walks prog w A.in1 I fp wr n P St ∧ St 0 s2.heap ∧ (∀ b ∈ fp, b < s2.heap.objs.size) ∧ 0 < n ∧ CmpIn prog w A.in1 .Gt P St bt ∧
      ∀ v g tk, P (argBest bt (n - 1)) v → (∀ b o, b ∉ wr → s2.heap.get? b = some o → g.get? b = some o) → Q v { s2 with heap := g, toks := tk }) E s) : wpAny (model prog w) A (call (.builtin "max") [x]) Q E s := by
  have nm : (toString "max" ++ toString ".loop" : String) = "max.loop" := by decide
  refine call_function_tree PySem.F.kind_max PySem.F.plain_max PySem.F.entry_max (PySem.F.args_max1 _) (by
    show wpAny _ A.in1 (Builtin.Builtins.bindParams "max" ["key", "default"] 0 ⟨[], []⟩ >>= _) _ _ s
    refine wpAny_bind (wpAny_of_eq (show Builtin.Builtins.bindParams "max" ["key", "default"] 0 ⟨[], []⟩ = pure [none, none] from rfl) (wpAny_bind (wpAny_pure (wpAny_bind (wpAny_mono h (fun it s2 z => ?_) fun _ _ e => e)))))
    obtain ⟨I, fp, wr, n, P, St, bt, rfl, W, st, low, hn, hc, fin⟩ := z
    refine wpAny_bind (wpAny_newObj_type ?_)
    have hf : s2.heap.objs.size ∉ fp := fun z => Nat.lt_irrefl _ (low _ z)
    rw [nm]
    refine wpAny_pure ⟨plainId_quiet PySem.F.plain_max_loop _, max_begins W bt hc s2.heap.objs.size hf hn (W.frame _ _ _ st fun b _ o e => Heap.get?_push_of_some _ e) (Heap.get?_push_size _ rfl) fun v g tk p k => ?_⟩
    exact fin v g tk p fun b o b1 e => k b o b1 (Nat.ne_of_lt (Heap.lt_size e)) (Heap.get?_push_of_some _ e))
theorem keepWalk {B : Heap} (W : Walks prog w A I fp wr n P St) (hB : ∀ b ∈ wr, B.get? b = none) : Walks prog w A I (fp ++ List.range B.objs.size) wr n P (fun i h => St i h ∧ ∀ b o, B.get? b = some o → h.get? b = some o) where
  sub := fun b hb => List.mem_append.mpr (.inl (W.sub b hb))
  frame := fun i h h' st k => ⟨W.frame i h h' st.1 fun b hb o e => k b (List.mem_append.mpr (.inl hb)) o e, fun b o e => k b (List.mem_append.mpr (.inr (List.mem_range.mpr (Heap.lt_size e)))) o (st.2 b o e)⟩
  item := fun i s Q E hi st hQ => W.item i s Q E hi st.1 fun v h' tk p st' k => hQ v h' tk p ⟨st', fun b o e => k b o (fun z => by rw [hB b z] at e; cases e) (st.2 b o e)⟩ k
  done := fun s Q E st hQ => W.done s Q E st.1 fun h' tk k => hQ h' tk k
  self := fun i s Q E st hQ => W.self i s Q E st.1 hQ
end
section
variable {X : Cx}
def ItP (h : Heap) (v : Value) (n : Int × Int) : Prop := ∃ (p : Addr) (t u : Tok), v = .ref p ∧ IsTup h p #[.int n.1 t, .int n.2 u]
theorem rc_min {A : Around} {s : Shared} {v u : Value} {a b : Int × Int} (hu : A.units < cLine) (hv : ItP s.heap v a) (hw : ItP s.heap u b) : Ob.RcOp .Lt A s v u (ltP a b) := by
  obtain ⟨p, t1, t2, rfl, h1⟩ := hv
  obtain ⟨q, t3, t4, rfl, h2⟩ := hw
  have R := Ob.RcOp.tuples_lt (A := A) (s := s) (e := fun j => if j = 0 then decide (a.1 = b.1) else decide (a.2 = b.2)) (r := fun j => if j = 0 then decide (a.1 < b.1) else decide (a.2 < b.2)) h1 h2 hu (fun j g1 g2 => by
    match j, g1 with
    | 0, _ => exact (show (a.1 == b.1) = decide (a.1 = b.1) from rfl) ▸ SeqAt.EqAt.int_int _ _ _ _
    | 1, _ => exact (show (a.2 == b.2) = decide (a.2 = b.2) from rfl) ▸ SeqAt.EqAt.int_int _ _ _ _) (fun j g1 g2 _ => by
    match j, g1 with
    | 0, _ => exact Ob.RcOp.lt_int _ _ _ _
    | 1, _ => exact Ob.RcOp.lt_int _ _ _ _)
  have e : ltP a b = Ob.lexAt (fun j => if j = 0 then decide (a.1 = b.1) else decide (a.2 = b.2)) (fun j => if j = 0 then decide (a.1 < b.1) else decide (a.2 < b.2)) false 0 2 := by
    unfold ltP
    simp only [Ob.lexAt]
    by_cases q1 : a.1 = b.1
    · by_cases q2 : a.2 = b.2
      · simp [q1, q2]
      · simp [q1, q2]
    · simp [q1]
  rw [e]
  exact R
theorem rc_max {A : Around} {s : Shared} {v u : Value} {a b : Int × Int} (hu : A.units < cLine) (hv : ItP s.heap v a) (hw : ItP s.heap u b) : Ob.RcOp .Gt A s v u (gtP a b) := by
  obtain ⟨p, t1, t2, rfl, h1⟩ := hv
  obtain ⟨q, t3, t4, rfl, h2⟩ := hw
  have R := Ob.RcOp.tuples_gt (A := A) (s := s) (e := fun j => if j = 0 then decide (a.1 = b.1) else decide (a.2 = b.2)) (r := fun j => if j = 0 then decide (b.1 < a.1) else decide (b.2 < a.2)) h1 h2 hu (fun j g1 g2 => by
    match j, g1 with
    | 0, _ => exact (show (a.1 == b.1) = decide (a.1 = b.1) from rfl) ▸ SeqAt.EqAt.int_int _ _ _ _
    | 1, _ => exact (show (a.2 == b.2) = decide (a.2 = b.2) from rfl) ▸ SeqAt.EqAt.int_int _ _ _ _) (fun j g1 g2 _ => by
    match j, g1 with
    | 0, _ => exact Ob.RcOp.gt_int _ _ _ _
    | 1, _ => exact Ob.RcOp.gt_int _ _ _ _)
  have e : gtP a b = Ob.lexAt (fun j => if j = 0 then decide (a.1 = b.1) else decide (a.2 = b.2)) (fun j => if j = 0 then decide (b.1 < a.1) else decide (b.2 < a.2)) false 0 2 := by
    unfold gtP
    simp only [Ob.lexAt]
    by_cases q1 : a.1 = b.1
    · by_cases q2 : a.2 = b.2
      · simp [q1, q2]
      · simp [q1, q2]
    · simp [q1]
  rw [e]
  exact R
end
def bestP (f : Int × Int → Int × Int → Bool) (ns : List (Int × Int)) : Nat := argBest (fun i j => f (ns.getD i (0, 0)) (ns.getD j (0, 0))) (ns.length - 1)
theorem bestQ_at (f : Int × Int → Int × Int → Bool) {x : Int × Int} {r : List (Int × Int)} : ∀ k, k ≤ r.length → ((r.take k).foldl (fun a b => if f b a = true then b else a) x) = (x :: r).getD (argBest (fun i j => f ((x :: r).getD i (0, 0)) ((x :: r).getD j (0, 0))) k) (0, 0)
  | 0, _ => rfl
  | k + 1, hk => by
    have ih := bestQ_at f (x := x) (r := r) k (by omega)
    have hk2 : k < r.length := by omega
    rw [List.take_succ_eq_append_getElem hk2, List.foldl_append, ih, List.foldl_cons, List.foldl_nil]
    have e : (x :: r).getD (k + 1) (0, 0) = r[k] := by simp [List.getD_eq_getElem?_getD, hk2]
    have e2 : argBest (fun i j => f ((x :: r).getD i (0, 0)) ((x :: r).getD j (0, 0))) (k + 1) = if f ((x :: r).getD (k + 1) (0, 0)) ((x :: r).getD (argBest (fun i j => f ((x :: r).getD i (0, 0)) ((x :: r).getD j (0, 0))) k) (0, 0)) = true then k + 1 else argBest (fun i j => f ((x :: r).getD i (0, 0)) ((x :: r).getD j (0, 0))) k := rfl
    rw [e2]
    generalize argBest (fun i j => f ((x :: r).getD i (0, 0)) ((x :: r).getD j (0, 0))) k = m
    rw [e]
    split
    · rw [e]
    · rfl
theorem bestQ_ok {f : Int × Int → Int × Int → Bool} {ns : List (Int × Int)} {z : D} (h : bestQ f ns = some z) : 0 < ns.length ∧ z = .tup [.int (ns.getD (bestP f ns) (0, 0)).1, .int (ns.getD (bestP f ns) (0, 0)).2] := by
  cases ns with
  | nil => cases h
  | cons x r =>
    refine ⟨Nat.succ_pos _, ?_⟩
    have e := bestQ_at f (x := x) (r := r) r.length (Nat.le_refl _)
    rw [List.take_length] at e
    replace h : (match r.foldl (fun a b => if f b a = true then b else a) x with | (a, b) => some (D.tup [.int a, .int b])) = some z := h
    rw [e] at h
    exact (Option.some.inj h).symm
def rBest (K : PySem.W.Frag) (f : Int × Int → Int × Int → Bool) : List V → Hp → VK → Prop := fun vs H Q => ∃ (a : Addr) (ps : List Addr) (ns : List (Int × Int)), vs = [V.ref a] ∧ SqL K H a (ps.map V.ref) ∧ Paired (fun p n => SqT K H p [.int n.1, .int n.2]) ps ns ∧ 0 < ns.length ∧
  ∀ p, ps[bestP f ns]? = some p → Q (.ref p) H
theorem refsAt : ∀ {ps : List Addr} {us : List Value}, Vals (ps.map V.ref) us → us = ps.map Value.ref
  | [], us, h => by cases h; rfl
  | p :: ps, us, h => by
    cases h with
    | cons h1 h2 =>
      cases h1
      rw [refsAt h2]
      rfl
theorem pairAt {X : Cx} {pins : List (Addr × Obj)} {σ : L2.St} {H : Hp} {s : Shared} (I : L2.Inv X pins σ H s) {p : Addr} {n : Int × Int} (h : SqT X.K H p [.int n.1, .int n.2]) : ItP s.heap (.ref p) n := by
  obtain ⟨its, r, t, _⟩ := I.tuple h
  cases r with
  | cons h1 r =>
    cases r with
    | cons h2 r =>
      cases r
      obtain ⟨t1, rfl⟩ := h1
      obtain ⟨t2, rfl⟩ := h2
      exact ⟨p, t1, t2, rfl, t⟩
theorem ItP.keep {h h' : Heap} {v : Value} {n : Int × Int} (q : ItP h v n) (k : ∀ b o, h.get? b = some o → h'.get? b = some o) : ItP h' v n := by
  obtain ⟨p, t, u, rfl, o, e, r⟩ := q
  exact ⟨p, t, u, rfl, o, k _ _ e, r⟩
theorem cr_minP {X : Cx} (hc : X.calm = true) (hu : X.A.units + 1 < cLine) : CallR X (.builtin "min") (rBest X.K ltP) := by
  intro pins s σ H vs us Q I r h
  obtain ⟨a, ps, ns, rfl, hs, pr, hne, q⟩ := h
  obtain ⟨its, rv, hl, _⟩ := I.list hs
  rw [Vals.ref1 r]
  have ei := refsAt rv
  subst ei
  have hlen : ps.length = ns.length := Paired.length pr
  have hl2 := hl.isList
  have lt : a < s.heap.objs.size := by obtain ⟨_, e, _⟩ := hl2; exact Heap.lt_size e
  refine min_walk (wpAny_pyIter_list hl2 ?_)
  refine ⟨s.heap.objs.size, _, _, _, _, _, fun i j => ltP (ns.getD i (0, 0)) (ns.getD j (0, 0)), rfl, keepWalk (B := s.heap) (Walks.list (A := X.A.in1) (I.ok.hd hc) _ a (Nat.ne_of_lt lt) (ps.map Value.ref).toArray) (fun b hb => ?_), ⟨⟨⟨_, Heap.get?_push_size _ rfl, rfl, rfl⟩, hl2.push _⟩, fun b o e => Heap.get?_push_of_some _ e⟩, fun b hb => ?_, ?_, ?_, fun v g tk hP hk => ?_⟩
  · rw [List.mem_singleton.mp hb]
    cases e : s.heap.get? s.heap.objs.size with
    | none => rfl
    | some o => exact absurd (Heap.lt_size e) (Nat.lt_irrefl _)
  · show b < (s.heap.push _).objs.size
    rw [Heap.size_push]
    rcases List.mem_append.mp hb with hb | hb
    · rcases List.mem_cons.mp hb with rfl | hb
      · exact Nat.lt_succ_self _
      · rw [List.mem_singleton.mp hb]; exact Nat.lt_succ_of_lt lt
    · exact Nat.lt_succ_of_lt (List.mem_range.mp hb)
  · rw [List.size_toArray, List.length_map, hlen]; exact hne
  · intro m i j vi vj s' Q' E' st pi pj q'
    have get : ∀ i v, (ps.map Value.ref).toArray[i]? = some v → ItP s'.heap v (ns.getD i (0, 0)) := fun i v hv => by
      rw [List.getElem?_toArray, List.getElem?_map] at hv
      obtain ⟨p, e1, rfl⟩ := Option.map_eq_some_iff.mp hv
      obtain ⟨n, e2, hn⟩ := paired_get pr e1
      rw [List.getD_eq_getElem?_getD, e2]
      exact (pairAt I hn).keep st.2
    exact rc_min (A := X.A.in1) (show X.A.units + 1 < cLine from hu) (get i vi pi) (get j vj pj) X.prog X.w E' Q' q'
  · rw [List.size_toArray, List.length_map, hlen, List.getElem?_toArray, List.getElem?_map] at hP
    obtain ⟨p, e1, rfl⟩ := Option.map_eq_some_iff.mp hP
    exact ⟨.ref p, H, I.kept (fun b o e => hk b o (fun z => by rw [List.mem_singleton.mp z] at e; exact absurd (Heap.lt_size e) (Nat.lt_irrefl _)) (Heap.get?_push_of_some _ e)), rfl, q p e1⟩
theorem cr_maxP {X : Cx} (hc : X.calm = true) (hu : X.A.units + 1 < cLine) : CallR X (.builtin "max") (rBest X.K gtP) := by
  intro pins s σ H vs us Q I r h
  obtain ⟨a, ps, ns, rfl, hs, pr, hne, q⟩ := h
  obtain ⟨its, rv, hl, _⟩ := I.list hs
  rw [Vals.ref1 r]
  have ei := refsAt rv
  subst ei
  have hlen : ps.length = ns.length := Paired.length pr
  have hl2 := hl.isList
  have lt : a < s.heap.objs.size := by obtain ⟨_, e, _⟩ := hl2; exact Heap.lt_size e
  refine max_walk (wpAny_pyIter_list hl2 ?_)
  refine ⟨s.heap.objs.size, _, _, _, _, _, fun i j => gtP (ns.getD i (0, 0)) (ns.getD j (0, 0)), rfl, keepWalk (B := s.heap) (Walks.list (A := X.A.in1) (I.ok.hd hc) _ a (Nat.ne_of_lt lt) (ps.map Value.ref).toArray) (fun b hb => ?_), ⟨⟨⟨_, Heap.get?_push_size _ rfl, rfl, rfl⟩, hl2.push _⟩, fun b o e => Heap.get?_push_of_some _ e⟩, fun b hb => ?_, ?_, ?_, fun v g tk hP hk => ?_⟩
  · rw [List.mem_singleton.mp hb]
    cases e : s.heap.get? s.heap.objs.size with
    | none => rfl
    | some o => exact absurd (Heap.lt_size e) (Nat.lt_irrefl _)
  · show b < (s.heap.push _).objs.size
    rw [Heap.size_push]
    rcases List.mem_append.mp hb with hb | hb
    · rcases List.mem_cons.mp hb with rfl | hb
      · exact Nat.lt_succ_self _
      · rw [List.mem_singleton.mp hb]; exact Nat.lt_succ_of_lt lt
    · exact Nat.lt_succ_of_lt (List.mem_range.mp hb)
  · rw [List.size_toArray, List.length_map, hlen]; exact hne
  · intro m i j vi vj s' Q' E' st pi pj q'
    have get : ∀ i v, (ps.map Value.ref).toArray[i]? = some v → ItP s'.heap v (ns.getD i (0, 0)) := fun i v hv => by
      rw [List.getElem?_toArray, List.getElem?_map] at hv
      obtain ⟨p, e1, rfl⟩ := Option.map_eq_some_iff.mp hv
      obtain ⟨n, e2, hn⟩ := paired_get pr e1
      rw [List.getD_eq_getElem?_getD, e2]
      exact (pairAt I hn).keep st.2
    exact rc_max (A := X.A.in1) (show X.A.units + 1 < cLine from hu) (get i vi pi) (get j vj pj) X.prog X.w E' Q' q'
  · rw [List.size_toArray, List.length_map, hlen, List.getElem?_toArray, List.getElem?_map] at hP
    obtain ⟨p, e1, rfl⟩ := Option.map_eq_some_iff.mp hP
    exact ⟨.ref p, H, I.kept (fun b o e => hk b o (fun z => by rw [List.mem_singleton.mp z] at e; exact absurd (Heap.lt_size e) (Nat.lt_irrefl _)) (Heap.get?_push_of_some _ e)), rfl, q p e1⟩
section
variable [MF] [PWc] {K : PySem.W.Frag} {S : Sg} {H : Hp}
theorem RVs.pairs : ∀ {ds : List D} {ns : List (Int × Int)} {ws : List V}, allP ds = some ns → RVs K S H ds ws → ∃ ps : List Addr, ws = ps.map V.ref ∧ Paired (fun p n => SqT K H p [.int n.1, .int n.2]) ps ns
  | [], ns, ws, e, q => by
    cases e
    rw [q.nil_iff]
    exact ⟨[], rfl, .nil⟩
  | d :: ds, ns, ws, e, q => by
    unfold allP at e
    split at e
    · rename_i e0; cases e0
    · rename_i a b r e0
      cases e0
      obtain ⟨ms, e1, rfl⟩ := Option.map_eq_some_iff.mp e
      obtain ⟨v, t, rfl, q1, q2⟩ := q.of_cons
      obtain ⟨ps, rfl, pr⟩ := RVs.pairs e1 q2
      unfold RV at q1
      obtain ⟨p, vs, rfl, hs, q1⟩ := q1
      obtain ⟨v1, t1, rfl, y1, q1⟩ := q1.of_cons
      obtain ⟨v2, t2, rfl, y2, q1⟩ := q1.of_cons
      rw [q1.nil_iff] at hs
      unfold RV at y1 y2
      subst y1 y2
      exact ⟨p :: ps, rfl, .cons hs pr⟩
    · cases e
end
end Bk
namespace Bk
open PySem PySem.Spec PyProof.Rows L2
variable [MF] [PWc]
theorem argBest_fold' {α : Type} (f : α → α → Bool) (d x : α) (xs : List α) : ∀ k, k ≤ xs.length →
    argBest (fun i j => f ((x :: xs).getD i d) ((x :: xs).getD j d)) k ≤ k ∧ (x :: xs).getD (argBest (fun i j => f ((x :: xs).getD i d) ((x :: xs).getD j d)) k) d = (xs.take k).foldl (fun a y => if f y a = true then y else a) x
  | 0, _ => ⟨Nat.le_refl _, rfl⟩
  | k + 1, hk => by
    obtain ⟨i1, i2⟩ := argBest_fold' f d x xs k (Nat.le_of_succ_le hk)
    have hx : xs[k]? = some xs[k] := List.getElem?_eq_getElem hk
    have e1 : (x :: xs).getD (k + 1) d = xs[k] := by
      rw [List.getD_eq_getElem?_getD, List.getElem?_cons_succ, hx]
      rfl
    have e2 : xs.take (k + 1) = xs.take k ++ [xs[k]] := by
      rw [List.take_add_one, hx]
      rfl
    rw [e2, List.foldl_append, List.foldl_cons, List.foldl_nil, ← i2]
    by_cases hb : f ((x :: xs).getD (k + 1) d) ((x :: xs).getD (argBest (fun i j => f ((x :: xs).getD i d) ((x :: xs).getD j d)) k) d) = true
    · have ea : argBest (fun i j => f ((x :: xs).getD i d) ((x :: xs).getD j d)) (k + 1) = k + 1 := if_pos hb
      rw [ea]
      refine ⟨Nat.le_refl _, ?_⟩
      rw [e1] at hb ⊢
      rw [if_pos hb]
    · have ea : argBest (fun i j => f ((x :: xs).getD i d) ((x :: xs).getD j d)) (k + 1) = argBest (fun i j => f ((x :: xs).getD i d) ((x :: xs).getD j d)) k := if_neg hb
      rw [ea]
      refine ⟨Nat.le_succ_of_le i1, ?_⟩
      rw [e1] at hb
      rw [if_neg hb]
theorem cmp_strs {prog : Program} {w : World} {A : Around} {P : Nat → Value → Prop} (val : Nat → List Nat) (hval : ∀ i v, P i v → ∃ t, v = .str ⟨(val i).toArray⟩ t) :
    CmpOf prog w A .Lt P (fun i j => ltS (val i) (val j)) := fun i j vi vj s Q E hi hj h => by
  obtain ⟨t, rfl⟩ := hval i vi hi
  obtain ⟨u, rfl⟩ := hval j vj hj
  refine richCompare_gives (op := .Lt) (typeIs_str s _ t) (typeIs_str s _ u) F.slot_str_lt F.entry_str_lt (F.args_str_lt_2 _ _) (gives_str_lt _ _ t u) (fun x => nomatch x) ?_
  simp only [List.toList_toArray]
  rw [ltS_eq]
  exact h
section
variable {X : Cx}
theorem strs_at {ss : List (List Nat)} {us : List Value} (r : Vals ((ss.map fun s => Str.mk s.toArray).map V.str) us) : us.length = ss.length ∧ ∀ (i : Nat) (v : Value), us[i]? = some v → ∃ t, v = Value.str ⟨(ss.getD i []).toArray⟩ t := by
  induction ss generalizing us with
  | nil => cases r; exact ⟨rfl, fun i v h => by simp at h⟩
  | cons s ss ih =>
    rw [List.map_cons, List.map_cons] at r
    cases r with
    | cons h1 h2 =>
      obtain ⟨i1, i2⟩ := ih h2
      refine ⟨by rw [List.length_cons, List.length_cons, i1], fun i v h => ?_⟩
      cases i with
      | zero =>
        simp only [List.getElem?_cons_zero, Option.some.injEq] at h
        subst h
        exact h1
      | succ i =>
        simp only [List.getElem?_cons_succ] at h
        simpa using i2 i v h
theorem iter_lst {prog : Program} {w : World} {A : Around} {E : Value → Shared → Prop} {s : Shared} {l : Addr} {its : Array Value} {Q : Value → Shared → Prop} (hl : s.heap.IsList l its)
    (hQ : ∀ s₂, s₂ = { s with heap := s.heap.push { cls := .type "list_iterator", data := .fields #[.ref l, .int 0 0] } } → (s₂.heap.IsListIter s.heap.objs.size l 0 ∧ s₂.heap.IsList l its) → (∀ b ∈ [s.heap.objs.size, l], b < s₂.heap.objs.size) → l ≠ s.heap.objs.size → Q (.ref s.heap.objs.size) s₂) :
    wpAny (model prog w) A (pyIter (.ref l)) Q E s := by
  have hlt : l < s.heap.objs.size := by obtain ⟨_, q, _⟩ := hl; exact Heap.lt_size q
  refine wpAny_pyIter_list hl (hQ _ rfl ⟨⟨_, Heap.get?_push_size _ rfl, rfl, rfl⟩, hl.push _⟩ (fun b hb => ?_) (Nat.ne_of_lt hlt))
  rw [Heap.size_push]
  rcases List.mem_cons.mp hb with rfl | hb
  · exact Nat.lt_succ_self _
  · rcases List.mem_cons.mp hb with rfl | hb
    · exact Nat.lt_succ_of_lt hlt
    · cases hb
theorem cr_minS (hc : X.calm = true) : CallR X (.builtin "min") (fun vs H Q => ∃ (a : Addr) (ss : List (List Nat)) (m : List Nat), vs = [V.ref a] ∧ SqL X.K H a ((ss.map fun s => Str.mk s.toArray).map V.str) ∧ minS ss = some m ∧ Q (.str ⟨m.toArray⟩) H) := by
  intro pins s σ H vs us Q I r h
  obtain ⟨a, ss, m, rfl, hs, hm, q⟩ := h
  obtain ⟨its, rv, hl, _⟩ := I.list hs
  rw [Vals.ref1 r]
  obtain ⟨l1, l2⟩ := strs_at rv
  cases ss with
  | nil => simp [minS] at hm
  | cons x ss =>
    simp only [minS, Option.some.injEq] at hm
    refine call_min_walk (iter_lst hl.isList fun s₂ e st hfp hlI => ?_)
    subst e
    refine ⟨_, _, _, _, _, _, _, rfl, Walks.list (A := X.A.in1) (I.ok.hd hc) _ a hlI its.toArray, st, hfp, by simp [l1], cmp_strs (fun i => (x :: ss).getD i []) (fun i v hv => l2 i v (by simpa using hv)), fun v h' tk hP hk => ?_⟩
    have hz : its.toArray.size - 1 = ss.length := by simp [l1]
    have hP : its.toArray[argBest (fun i j => ltS ((x :: ss).getD i []) ((x :: ss).getD j [])) (its.toArray.size - 1)]? = some v := hP
    rw [hz, List.getElem?_toArray] at hP
    obtain ⟨t, rfl⟩ := l2 _ v hP
    have e2 := (argBest_fold' ltS [] x ss ss.length (Nat.le_refl _)).2
    rw [List.take_length] at e2
    rw [e2, hm]
    exact ⟨.str _, H, I.kept (old_kept hk), ⟨t, rfl⟩, q⟩
theorem call_minS2 (hc : X.calm = true) : CallR X (.builtin "min") (fun xs H Q => ∃ s t : List Nat, xs = [.str ⟨s.toArray⟩, .str ⟨t.toArray⟩] ∧ Q (.str ⟨(if ltS t s = true then t else s).toArray⟩) H) := by
  intro pins sh σ H xs us Q I r h
  obtain ⟨s, t, rfl, q⟩ := h
  obtain ⟨u, w', rfl, ⟨tk1, rfl⟩, ⟨tk2, rfl⟩⟩ := vals2 r
  have hT : (sh.heap.push { cls := .type "tuple", data := .seq #[.str ⟨s.toArray⟩ tk1, .str ⟨t.toArray⟩ tk2] }).IsTuple sh.heap.objs.size #[.str ⟨s.toArray⟩ tk1, .str ⟨t.toArray⟩ tk2] := ⟨_, Heap.get?_push_size _ rfl, rfl, 0, rfl⟩
  refine call_min_two (wpAny_pyIter_tuple hT ?_)
  have hsz : (sh.heap.push { cls := .type "tuple", data := .seq #[.str ⟨s.toArray⟩ tk1, .str ⟨t.toArray⟩ tk2] }).objs.size = sh.heap.objs.size + 1 := Heap.size_push ..
  have l2 : ∀ (i : Nat) (v : Value), (#[Value.str ⟨s.toArray⟩ tk1, .str ⟨t.toArray⟩ tk2] : Array Value)[i]? = some v → ∃ k, v = Value.str ⟨([s, t].getD i []).toArray⟩ k := fun i v hv => by
    match i, hv with
    | 0, hv => cases hv; exact ⟨_, rfl⟩
    | 1, hv => cases hv; exact ⟨_, rfl⟩
    | i + 2, hv => cases hv
  refine ⟨_, [_, sh.heap.objs.size], [_], _, _, _, _, rfl, Walks.tuple (A := X.A.in1) (I.ok.hd hc) _ sh.heap.objs.size (by rw [hsz]; exact Nat.ne_of_lt (Nat.lt_succ_self _)) #[.str ⟨s.toArray⟩ tk1, .str ⟨t.toArray⟩ tk2],
    ⟨⟨_, Heap.get?_push_size _ rfl, rfl, rfl⟩, hT.push _⟩, fun c hc => ?_, by simp, cmp_strs (fun i => [s, t].getD i []) l2, fun v h' tk hP hk => ?_⟩
  · show c < ((sh.heap.push _).push _).objs.size
    rw [Heap.size_push, hsz]
    rcases List.mem_cons.mp hc with rfl | hc
    · rw [hsz]; exact Nat.lt_succ_self _
    · rcases List.mem_cons.mp hc with rfl | hc
      · exact Nat.lt_succ_of_lt (Nat.lt_succ_self _)
      · cases hc
  · have hold : ∀ c o, sh.heap.get? c = some o → h'.get? c = some o := fun c o e => by
      refine hk c o (fun hm => ?_) (Heap.get?_push_of_some _ (Heap.get?_push_of_some _ e))
      rcases List.mem_cons.mp hm with e1 | hm
      · have := Heap.lt_size e; rw [e1, hsz] at this; exact Nat.lt_irrefl _ (Nat.lt_of_succ_lt this)
      · cases hm
    obtain ⟨k, rfl⟩ := l2 _ v hP
    have e2 := (argBest_fold' ltS [] s [t] 1 (Nat.le_refl _)).2
    have e3 : [s, t].getD (argBest (fun i j => ltS ([s, t].getD i []) ([s, t].getD j [])) 1) [] = if ltS t s = true then t else s := e2
    refine ⟨.str _, H, I.kept hold, ⟨k, ?_⟩, q⟩
    show Value.str ⟨([s, t].getD (argBest (fun i j => ltS ([s, t].getD i []) ([s, t].getD j [])) 1) []).toArray⟩ k = _
    rw [e3]
end
end Bk
namespace Bk
open PySem PySem.Spec PyProof.Rows L2
theorem meets_enumT (l : Addr) (items : Array Value) (n : Nat) (dct : Option Addr) (sl : Array (Option Value)) :
    Meets (Builtin.«enumerate.__new__» ⟨[.type "enumerate", .ref l], []⟩) (fun _ R s => s.heap.get? l = some { cls := .type "tuple", dict := dct, data := .seq items n, slots := sl } ∧
      R (.ok (.ret (.ref (s.heap.push { cls := .type "tuple_iterator", data := .fields #[.ref l, .int 0 0] }).objs.size)))
        { s with heap := (s.heap.push { cls := .type "tuple_iterator", data := .fields #[.ref l, .int 0 0] }).push { cls := .type "enumerate", data := .fields #[.none, .bool false, .ref s.heap.objs.size, rawInt 0, .none, .none] } }) :=
  .of_wp fun prog w A R s h => by
    obtain ⟨hp, g, d, tk, os⟩ := s; obtain ⟨hl, h⟩ := h
    have hsub := sub_enumerate
    have hL : Heap.IsTuple (Shared.heap ⟨hp, g, d, tk, os⟩) l items := ⟨_, hl, rfl, n, rfl⟩
    have q1 : ∀ {A' : Around} {E : Value → Shared → Prop} {Q : Value → Shared → Prop}, Q (.ref hp.objs.size) ⟨hp.push { cls := .type "tuple_iterator", data := .fields #[.ref l, .int 0 0] }, g, d, tk, os⟩ → wpAny (model prog w) A' (pyIter (.ref l)) Q E ⟨hp, g, d, tk, os⟩ :=
      fun q => wpAny_pyIter_tuple hL q
    wp_walk using q1
    refine wpAny_stack_any fun st => wpAny_pure ?_
    split
    · rename_i c _ _ _ _ _
      cases (c == Value.type "enumerate")
      · wp_walk using q1
        exact ⟨_, rfl, h⟩
      · wp_walk using q1
        exact ⟨_, rfl, h⟩
    · wp_walk using q1
      exact ⟨_, rfl, h⟩
section
variable {prog : Program} {w : World} {A : Around} {E : Value → Shared → Prop} {s : Shared}
theorem call_enumT {l : Addr} {items : Array Value} {Q : Value → Shared → Prop} (hL : s.heap.IsTuple l items)
    (h : ∀ h', IsEnum h' (s.heap.objs.size + 1) s.heap.objs.size 0 .none → h'.IsTupleIter s.heap.objs.size l 0 → h'.objs.size = s.heap.objs.size + 2 →
      (∀ b o, s.heap.get? b = some o → h'.get? b = some o) → Q (.ref (s.heap.objs.size + 1)) { s with heap := h' }) :
    wpAny (model prog w) A (call (.type "enumerate") [.ref l]) Q E s := by
  obtain ⟨⟨c, dct, dt, sl⟩, hl, hc, n, hd⟩ := hL
  replace hc : c = .type "tuple" := hc
  replace hd : dt = .seq items n := hd
  subst hc hd
  refine callType_new F.called_enumerate (by decide) (F.typeCall_enumerate_1 _) (F.newCall_enumerate_1 _) (fun obj => F.args_object_init_2 obj _) F.entry_enumerate_new
    (meets_enumT l items n dct sl) ⟨hl, ?_⟩
  have hz : (s.heap.push { cls := .type "tuple_iterator", data := .fields #[.ref l, .int 0 0] }).objs.size = s.heap.objs.size + 1 := Heap.size_push ..
  show _ ∧ _
  rw [hz]
  have he : IsEnum ((s.heap.push { cls := .type "tuple_iterator", data := .fields #[.ref l, .int 0 0] }).push
      { cls := .type "enumerate", data := .fields #[.none, .bool false, .ref s.heap.objs.size, rawInt 0, .none, .none] }) (s.heap.objs.size + 1) s.heap.objs.size 0 .none := by
    have := Heap.get?_push_size (s.heap.push { cls := .type "tuple_iterator", data := .fields #[.ref l, .int 0 0] })
      (o := { cls := .type "enumerate", data := .fields #[.none, .bool false, .ref s.heap.objs.size, rawInt 0, .none, .none] }) rfl
    rw [hz] at this; exact this
  refine ⟨⟨_, he, rfl⟩, h _ he ⟨_, Heap.get?_push_of_some _ (Heap.get?_push_size _ rfl), rfl, rfl⟩ (by rw [Heap.size_push, hz]) fun b o x => Heap.get?_push_of_some _ (Heap.get?_push_of_some _ x)⟩
end
def Iet (K : PySem.W.Frag) (a : Addr) : It :=
  ⟨fun i H => ∃ (xs : List V) (x : V), SqT K H a xs ∧ xs[i]? = some x, fun i H v H' => ∃ T x, v = .ref T ∧ H T = none ∧ H' = upd H T (.tup [.int (i : Nat), x]) ∧ ∀ xs, SqT K H a xs → xs[i]? = some x, fun i H => ∃ xs : List V, SqT K H a xs ∧ xs.length = i⟩
theorem turn_enumT {P : Program} {w : World} {K : PySem.W.Frag} {elts : List PySem.Expr} {kk : Nat} {tpos : Pos} (a e it : Addr) :
    Turn P w K (.Tuple elts kk tpos) (Iet K a) [e, it] e (fun i h => (∃ old, IsEnum h e it ((i : Nat) : Int) old) ∧ h.IsTupleIter it a i ∧ e ≠ it ∧ a ≠ it ∧ a ≠ e) where
  mem := by simp
  obj := fun i h st b hb => by
    obtain ⟨⟨old, he⟩, ⟨o, ho, hc, hd⟩, _⟩ := st
    have e' : b = e ∨ b = it := by simpa using hb
    rcases e' with z | z
    · rw [z]; exact ⟨_, he, fun v q => nomatch q⟩
    · rw [z]; exact ⟨o, ho, fun v q => by rw [hd] at q; cases q⟩
  keep := fun i h h' st k => let ⟨⟨old, he⟩, hi, hne⟩ := st; ⟨⟨old, k e (by simp) _ he⟩, hi.at fun o q => k it (by simp) o q, hne⟩
  item := by
    intro X hP hw hK hc i pins s σ H E I hf st hg
    subst hP hw hK
    obtain ⟨⟨old, he⟩, hit, hne, hai, hae⟩ := st
    obtain ⟨xs, x, hq, hx⟩ := hg
    obtain ⟨its, rv, p, hz⟩ := I.tuple hq
    obtain ⟨u, hu, ru⟩ := rv.get hx
    have hel : e < s.heap.objs.size := Heap.lt_size he
    have hil : it < s.heap.objs.size := by obtain ⟨_, q, _⟩ := hit; exact Heap.lt_size q
    have hlt : i < its.toArray.size := by
      have := (List.getElem?_eq_some_iff.mp hu).1
      simpa using this
    refine wpAny_pyNext_enum_itemD (Draws.tuple (A := X.A.in1) (I.ok.hd hc) it a hai its.toArray) he ⟨hit, p⟩ hlt hne (by simp [hne, Ne.symm hae]) fun y h' tk hPy ho hst' hT hsz hk => ?_
    have hy : y = u := by
      have h1 : its.toArray[i]? = some y := hPy
      have h2 : its.toArray[i]? = some u := by simpa using hu
      rw [h1] at h2
      exact Option.some.inj h2
    subst hy
    refine ⟨_, rfl, wpAny_letOwnedTupleGo_enum (s := { s with heap := h', toks := tk + 1 }) ho fun h'' he' sb => ?_⟩
    have hT2 : h''.get? s.heap.objs.size = some { cls := .type "tuple", data := .seq #[.int i tk, y] } := (sb.2 _ (Nat.ne_of_gt hel)).trans hT
    have new : ObjOk X.prog X.w (upd H s.heap.objs.size (.tup [.int (i : Nat), x])) h'' s.heap.objs.size (.tup [.int (i : Nat), x]) :=
      ⟨by show 2 ≤ sizeLine; decide, [.int i tk, y], .cons ⟨_, rfl⟩ (.cons ru .nil), ⟨_, hT2, rfl, _, rfl⟩⟩
    have I1 : Inv X pins σ (upd H s.heap.objs.size (.tup [.int (i : Nat), x])) { s with heap := h'', toks := tk + 1 } :=
      I.turnedNew (ch := [e, it]) (fun b ob hb q => (sb.2 b (fun z => hb (by simp [z]))).trans (hk b ob (fun z => hb (by simp [z])) (fun z => hb (by simp [z])) q)) hf (Nat.le_refl _) new
    refine ⟨.ref s.heap.objs.size, _, I1, rfl, ⟨_, x, rfl, I.hok.fresh (Nat.le_refl _), rfl, fun ys hy => by rw [I.tuple_inj hy hq]; exact hx⟩, ⟨⟨y, ?_⟩, hst'.1.at fun o q => (sb.2 it (Ne.symm hne)).trans q, hne, hai, hae⟩, fun b hb => ?_⟩
    · have e1 : ((i + 1 : Nat) : Int) = (i : Int) + 1 := by omega
      rw [e1]; exact he'
    · have hb' : b < s.heap.objs.size := by
        have e' : b = e ∨ b = it := by simpa using hb
        rcases e' with z | z
        · rw [z]; exact hel
        · rw [z]; exact hil
      rw [upd_ne (Nat.ne_of_lt hb')]
      exact (hf b hb).1
  done := by
    intro X hP hw hK hc i pins s σ H E I hf st hg
    subst hP hw hK
    obtain ⟨⟨old, he⟩, hit, hne, hai, hae⟩ := st
    obtain ⟨xs, hq, hx⟩ := hg
    obtain ⟨its, rv, p, hz⟩ := I.tuple hq
    obtain ⟨f0, f1, f2, f3, f4, f5⟩ := hf it (by simp)
    have hl := rv.length
    have hn : its.toArray.size = i := by simp; omega
    exact wpAny_pyNext_enum_endD (Draws.tuple (A := X.A.in1) (I.ok.hd hc) it a hai its.toArray) he ⟨by rw [hn]; exact hit, p⟩ fun h' eb => ⟨rfl, I.turned (t' := s.toks) (fun b o hb q => eb b o hb q) f0 f1 f3 f4 f5⟩
  self := fun A i s Q E st h => let ⟨⟨_, he⟩, _⟩ := st; wpAny_pyIter_enum he h
def Ies (x : Str) : It := ⟨fun i _ => i < x.cps.size, fun i H v H' => ∃ T c, v = .ref T ∧ H T = none ∧ H' = upd H T (.tup [.int (i : Nat), .str ⟨#[c]⟩]) ∧ x.cps[i]? = some c, fun i _ => x.cps.size = i⟩
theorem turn_enumS {P : Program} {w : World} {K : PySem.W.Frag} {elts : List PySem.Expr} {kk : Nat} {tpos : Pos} (x : Str) (t : Tok) (e it : Addr) :
    Turn P w K (.Tuple elts kk tpos) (Ies x) [e, it] e (fun i h => (∃ old, IsEnum h e it ((i : Nat) : Int) old) ∧ h.IsStrIter it (strIterType x) x t i ∧ e ≠ it) where
  mem := by simp
  obj := fun i h st b hb => by
    obtain ⟨⟨old, he⟩, ⟨o, ho, hc, hd⟩, _⟩ := st
    have e' : b = e ∨ b = it := by simpa using hb
    rcases e' with z | z
    · rw [z]; exact ⟨_, he, fun v q => nomatch q⟩
    · rw [z]; exact ⟨o, ho, fun v q => by rw [hd] at q; cases q⟩
  keep := fun i h h' st k => let ⟨⟨old, he⟩, ⟨o, ho, r⟩, hne⟩ := st; ⟨⟨old, k e (by simp) _ he⟩, ⟨o, k it (by simp) o ho, r⟩, hne⟩
  item := by
    intro X hP hw hK hc i pins s σ H E I hf st hg
    subst hP hw hK
    obtain ⟨⟨old, he⟩, hit, hne⟩ := st
    have hel : e < s.heap.objs.size := Heap.lt_size he
    have hil : it < s.heap.objs.size := by obtain ⟨_, q, _⟩ := hit; exact Heap.lt_size q
    refine wpAny_pyNext_enum_itemD (Draws.text (A := X.A.in1) (I.ok.hd hc) it x t) he hit hg hne (by simp [hne]) fun y h' tk hPy ho hst' hT hsz hk => ?_
    obtain ⟨c, u, hcx, rfl⟩ := hPy
    refine ⟨_, rfl, wpAny_letOwnedTupleGo_enum (s := { s with heap := h', toks := tk + 1 }) ho fun h'' he' sb => ?_⟩
    have hT2 : h''.get? s.heap.objs.size = some { cls := .type "tuple", data := .seq #[.int i tk, .str ⟨#[c]⟩ u] } := (sb.2 _ (Nat.ne_of_gt hel)).trans hT
    have new : ObjOk X.prog X.w (upd H s.heap.objs.size (.tup [.int (i : Nat), .str ⟨#[c]⟩])) h'' s.heap.objs.size (.tup [.int (i : Nat), .str ⟨#[c]⟩]) :=
      ⟨by show 2 ≤ sizeLine; decide, [.int i tk, .str ⟨#[c]⟩ u], .cons ⟨_, rfl⟩ (.cons ⟨_, rfl⟩ .nil), ⟨_, hT2, rfl, _, rfl⟩⟩
    have I1 : Inv X pins σ (upd H s.heap.objs.size (.tup [.int (i : Nat), .str ⟨#[c]⟩])) { s with heap := h'', toks := tk + 1 } :=
      I.turnedNew (ch := [e, it]) (fun b ob hb q => (sb.2 b (fun z => hb (by simp [z]))).trans (hk b ob (fun z => hb (by simp [z])) (fun z => hb (by simp [z])) q)) hf (Nat.le_refl _) new
    refine ⟨.ref s.heap.objs.size, _, I1, rfl, ⟨_, c, rfl, I.hok.fresh (Nat.le_refl _), rfl, hcx⟩, ⟨⟨.str ⟨#[c]⟩ u, ?_⟩, ?_, hne⟩, fun b hb => ?_⟩
    · have e1 : ((i + 1 : Nat) : Int) = (i : Int) + 1 := by omega
      rw [e1]; exact he'
    · obtain ⟨o, ho', r⟩ := hst'
      exact ⟨o, (sb.2 it (Ne.symm hne)).trans ho', r⟩
    · have hb' : b < s.heap.objs.size := by
        have e' : b = e ∨ b = it := by simpa using hb
        rcases e' with z | z
        · rw [z]; exact hel
        · rw [z]; exact hil
      rw [upd_ne (Nat.ne_of_lt hb')]
      exact (hf b hb).1
  done := by
    intro X hP hw hK hc i pins s σ H E I hf st hg
    subst hP hw hK
    obtain ⟨⟨old, he⟩, hit, hne⟩ := st
    obtain ⟨f0, f1, f2, f3, f4, f5⟩ := hf it (by simp)
    have hg : x.cps.size = i := hg
    exact wpAny_pyNext_enum_endD (Draws.text (A := X.A.in1) (I.ok.hd hc) it x t) he (by rw [hg]; exact hit) fun h' eb => ⟨rfl, I.turned (t' := s.toks) (fun b o hb q => eb b o hb q) f0 f1 f3 f4 f5⟩
  self := fun A i s Q E st h => let ⟨⟨_, he⟩, _⟩ := st; wpAny_pyIter_enum he h
def iEnumT (K : PySem.W.Frag) (ta : TA) : TI := fun σ H R => ta σ H fun vs H1 => (∃ a xs, vs = [.ref a] ∧ SqT K H1 a xs ∧ R (Iet K a) H1) ∨ (∃ x, vs = [.str x] ∧ R (Ies x) H1) ∨ ∃ a xs, vs = [.ref a] ∧ SqL K H1 a xs ∧ R (Ite K a) H1
theorem pi_enumT {X : Cx} {e : PySem.Expr} {ta : TA} {p pos tpos : Pos} {elts : List PySem.Expr} {kk : Nat} (hg : Gl X "enumerate") (hm : X.mg "enumerate" = none) (ha : PA X [e] ta) (hs : starEach [e] X.env = [(false, eval e X.env)]) :
    PI X (.Tuple elts kk tpos) (.Call (.Name "enumerate" p) [e] [] pos) (iEnumT X.K ta) := by
  refine ⟨fun pins s σ H R I h => ?_⟩
  refine Call_ (ld_blt I hg hm boot_enumerate (PyProof.Rows.callWith_type1 (thn (ha.run pos pins s σ H _ I h) fun us s1 ⟨vs, H1, I1, r1, q1⟩ => ?_) hs rfl))
  have mem : ∀ b ∈ [s1.heap.objs.size + 1, s1.heap.objs.size], s1.heap.objs.size ≤ b := fun b hb => by
    have e' : b = s1.heap.objs.size + 1 ∨ b = s1.heap.objs.size := by simpa using hb
    rcases e' with z | z
    · rw [z]; exact Nat.le_add_right _ _
    · rw [z]; exact Nat.le_refl _
  rcases q1 with ⟨a, xs, ex, hq, q⟩ | ⟨x, ex, q⟩ | ⟨a, xs, ex, hq, q⟩
  · subst ex
    cases r1 with
    | cons r rr =>
      cases rr
      cases r
      obtain ⟨its, rv, p', hz⟩ := I1.tuple hq
      have hal : a < s1.heap.objs.size := by obtain ⟨_, q, _⟩ := p'; exact Heap.lt_size q
      refine call_enumT p' fun h' he hit hsz hk => wpAny_pyIter_enum he ?_
      have I2 : Inv X pins σ H1 { s1 with heap := h' } := I1.kept (t' := s1.toks) hk
      refine ⟨s1.heap.objs.size + 1, [s1.heap.objs.size + 1, s1.heap.objs.size], _, _, H1, rfl, I2, turn_enumT a (s1.heap.objs.size + 1) s1.heap.objs.size, ⟨⟨.none, he⟩, hit, Nat.succ_ne_self _, Nat.ne_of_lt hal, Nat.ne_of_lt (Nat.lt_succ_of_lt hal)⟩, fun b hb => ?_, q⟩
      exact I1.fpOk (mem b hb) (I1.hok.fresh (mem b hb))
  · subst ex
    cases r1 with
    | cons r rr =>
      cases rr
      obtain ⟨t, rfl⟩ := r
      refine call_enumerate_str fun h' he hit hsz hk => wpAny_pyIter_enum he ?_
      have I2 : Inv X pins σ H1 { s1 with heap := h' } := I1.kept (t' := s1.toks) hk
      refine ⟨s1.heap.objs.size + 1, [s1.heap.objs.size + 1, s1.heap.objs.size], _, _, H1, rfl, I2, turn_enumS x t (s1.heap.objs.size + 1) s1.heap.objs.size, ⟨⟨.none, he⟩, hit, Nat.succ_ne_self _⟩, fun b hb => ?_, q⟩
      exact I1.fpOk (mem b hb) (I1.hok.fresh (mem b hb))
  · subst ex
    cases r1 with
    | cons r rr =>
      cases rr
      cases r
      obtain ⟨its, rv, p', hz⟩ := I1.list hq
      refine call_enumerate_list p'.isList fun h' he hit hsz hk => wpAny_pyIter_enum he ?_
      have I2 : Inv X pins σ H1 { s1 with heap := h' } := I1.kept (t' := s1.toks) hk
      refine ⟨s1.heap.objs.size + 1, [s1.heap.objs.size + 1, s1.heap.objs.size], _, _, H1, rfl, I2, turn_enum a (s1.heap.objs.size + 1) s1.heap.objs.size, ⟨⟨.none, he⟩, hit, Nat.succ_ne_self _⟩, fun b hb => ?_, q⟩
      exact I1.fpOk (mem b hb) (I1.hok.fresh (mem b hb))
end Bk
namespace Bk
open PySem PySem.Spec PyProof.Rows L2
variable [MF] [PWc]
section
variable {K : PySem.W.Frag} {S : Sg} {H : Hp} {h : Hq}
theorem RWs.one {xs : List Vv} {vs : List V} {d : D} (q : RWs K S H xs vs) (e : rdVs h xs = some [d]) : ∃ a v, xs = [a] ∧ vs = [v] ∧ RW K S H a v ∧ rdV h a = some d := by
  cases xs with
  | nil => simp [rdVs] at e
  | cons a r =>
    obtain ⟨v, t, rfl, q1, q2⟩ := q
    simp only [rdVs] at e
    obtain ⟨d1, e1, e2⟩ := Option.bind_eq_some_iff.mp e
    obtain ⟨ds, e3, e4⟩ := Option.map_eq_some_iff.mp e2
    cases e4
    cases r with
    | nil => cases q2; exact ⟨a, v, rfl, rfl, q1, e1⟩
    | cons b r =>
      simp only [rdVs] at e3
      obtain ⟨d2, _, e6⟩ := Option.bind_eq_some_iff.mp e3
      obtain ⟨_, _, e8⟩ := Option.map_eq_some_iff.mp e6
      cases e8
theorem RWs.two {xs : List Vv} {vs : List V} {d e : D} (q : RWs K S H xs vs) (he : rdVs h xs = some [d, e]) : ∃ a b v w, xs = [a, b] ∧ vs = [v, w] ∧ RW K S H a v ∧ RW K S H b w ∧ rdV h a = some d ∧ rdV h b = some e := by
  cases xs with
  | nil => simp [rdVs] at he
  | cons a r =>
    obtain ⟨v, t, rfl, q1, q2⟩ := q
    simp only [rdVs] at he
    obtain ⟨d1, e1, e2⟩ := Option.bind_eq_some_iff.mp he
    obtain ⟨ds, e3, e4⟩ := Option.map_eq_some_iff.mp e2
    cases e4
    obtain ⟨b, w, rfl, rfl, q3, e5⟩ := RWs.one q2 e3
    exact ⟨a, b, v, w, rfl, rfl, q1, q3, e1, e5⟩
theorem RVs.ints : ∀ {ds : List D} {vs : List V} {is : List Int}, RVs K S H ds vs → allInt ds = some is → vs = is.map V.int
  | [], vs, is, q, e => by cases e; rw [q.nil_iff]; rfl
  | d :: ds, vs, is, q, e => by
    obtain ⟨v, t, rfl, q1, q2⟩ := q.of_cons
    cases d with
    | int i =>
      simp only [allInt] at e
      obtain ⟨js, e1, rfl⟩ := Option.map_eq_some_iff.mp e
      unfold RV at q1
      rw [q1, RVs.ints q2 e1]; rfl
    | _ => simp [allInt] at e
theorem RVs.bls : ∀ {ds : List D} {vs : List V} {is : List Bool}, RVs K S H ds vs → allBl ds = some is → vs = is.map V.bl
  | [], vs, is, q, e => by cases e; rw [q.nil_iff]; rfl
  | d :: ds, vs, is, q, e => by
    obtain ⟨v, t, rfl, q1, q2⟩ := q.of_cons
    cases d with
    | bl i =>
      simp only [allBl] at e
      obtain ⟨js, e1, rfl⟩ := Option.map_eq_some_iff.mp e
      unfold RV at q1
      rw [q1, RVs.bls q2 e1]; rfl
    | _ => simp [allBl] at e
theorem RVs.texts : ∀ {ds : List D} {vs : List V} {is : List (List Nat)}, RVs K S H ds vs → allStr ds = some is → vs = (is.map fun s => Str.mk s.toArray).map V.str
  | [], vs, is, q, e => by cases e; rw [q.nil_iff]; rfl
  | d :: ds, vs, is, q, e => by
    obtain ⟨v, t, rfl, q1, q2⟩ := q.of_cons
    cases d with
    | str i =>
      simp only [allStr] at e
      obtain ⟨js, e1, rfl⟩ := Option.map_eq_some_iff.mp e
      unfold RV at q1
      rw [q1, RVs.texts q2 e1]; rfl
    | _ => simp [allStr] at e
end
theorem fold_min : ∀ (r : List Int) (x : Int), r.foldl (fun a b => if b < a then b else a) x ∈ x :: r ∧ ∀ y ∈ x :: r, r.foldl (fun a b => if b < a then b else a) x ≤ y
  | [], x => by simp
  | b :: r, x => by
    rw [List.foldl_cons]
    obtain ⟨h1, h2⟩ := fold_min r (if b < x then b else x)
    have ha : (if b < x then b else x) ≤ x := by split <;> omega
    have hb : (if b < x then b else x) ≤ b := by split <;> omega
    have h3 := h2 _ List.mem_cons_self
    refine ⟨?_, fun y hy => ?_⟩
    · rcases List.mem_cons.mp h1 with e | e
      · rw [e]; split <;> simp
      · exact List.mem_cons_of_mem _ (List.mem_cons_of_mem _ e)
    · rcases List.mem_cons.mp hy with rfl | hy
      · omega
      · rcases List.mem_cons.mp hy with rfl | hy
        · omega
        · exact h2 y (List.mem_cons_of_mem _ hy)
theorem fold_max : ∀ (r : List Int) (x : Int), r.foldl (fun a b => if b > a then b else a) x ∈ x :: r ∧ ∀ y ∈ x :: r, y ≤ r.foldl (fun a b => if b > a then b else a) x
  | [], x => by simp
  | b :: r, x => by
    rw [List.foldl_cons]
    obtain ⟨h1, h2⟩ := fold_max r (if b > x then b else x)
    have ha : x ≤ (if b > x then b else x) := by split <;> omega
    have hb : b ≤ (if b > x then b else x) := by split <;> omega
    have h3 := h2 _ List.mem_cons_self
    refine ⟨?_, fun y hy => ?_⟩
    · rcases List.mem_cons.mp h1 with e | e
      · rw [e]; split <;> simp
      · exact List.mem_cons_of_mem _ (List.mem_cons_of_mem _ e)
    · rcases List.mem_cons.mp hy with rfl | hy
      · omega
      · rcases List.mem_cons.mp hy with rfl | hy
        · omega
        · exact h2 y (List.mem_cons_of_mem _ hy)
theorem minL_ok {is : List Int} {m : Int} (e : minL is = some m) : 0 < is.length ∧ m ∈ is ∧ ∀ y ∈ is, m ≤ y := by
  cases is with
  | nil => simp [minL] at e
  | cons x r =>
    simp only [minL] at e
    cases e
    exact ⟨by simp, fold_min r x⟩
theorem maxL_ok {is : List Int} {m : Int} (e : maxL is = some m) : 0 < is.length ∧ m ∈ is ∧ ∀ y ∈ is, y ≤ m := by
  cases is with
  | nil => simp [maxL] at e
  | cons x r =>
    simp only [maxL] at e
    cases e
    exact ⟨by simp, fold_max r x⟩
def rBl (K : PySem.W.Frag) (f : List D → Option D) : List V → Hp → VK → Prop := fun vs H Q => ∃ S h xs ds z, RelH K S H h ∧ RWs K S H xs vs ∧ rdVs h xs = some ds ∧ f ds = some z ∧ Dl K S H h z Q
section
variable {X : Cx}
theorem cR_len : CallR X (.builtin "len") (rBl X.K lenD) := by
  intro pins s σ H vs us Q I rr h
  obtain ⟨S, h, xs, ds, z, r, rx, e, hz, dl⟩ := h
  unfold lenD at hz
  split at hz
  · split at hz
    · rename_i hl
      cases hz
      obtain ⟨a, v, rfl, rfl, ra, ea⟩ := rx.one e
      have hs := ra.str r ea
      subst hs
      refine call_len pins s σ H _ us Q I rr ⟨_, _, rfl, ⟨?_, rfl⟩, ?_⟩
      · simp only [Str.length, List.size_toArray]; exact Nat.le_trans hl lim_le
      · simp only [Str.length, List.size_toArray]; exact dl.int r
    · cases hz
  · cases hz
    obtain ⟨a, v, rfl, rfl, ra, ea⟩ := rx.one e
    obtain ⟨p, ws, rfl, t, q⟩ := ra.tup r ea
    refine call_len pins s σ H _ us Q I rr ⟨_, ws.length, rfl, .inr ⟨ws, t, rfl⟩, ?_⟩
    rw [q.length]
    exact dl.int r
  · cases hz
    obtain ⟨a, v, rfl, rfl, ra, ea⟩ := rx.one e
    obtain ⟨p, ws, rfl, t, q⟩ := ra.lst r ea
    refine call_len pins s σ H _ us Q I rr ⟨_, ws.length, rfl, .inl ⟨ws, SqL.of t, rfl⟩, ?_⟩
    rw [q.length]
    exact dl.int r
  · cases hz
theorem cR_min (hc : X.calm = true) (hu : X.A.units + 1 < cLine) : CallR X (.builtin "min") (rBl X.K minD) := by
  intro pins s σ H vs us Q I rr h
  obtain ⟨S, h, xs, ds, z, r, rx, e, hz, dl⟩ := h
  unfold minD at hz
  split at hz
  · cases hz
    obtain ⟨a, b, v, w, rfl, rfl, ra, rb, ea, eb⟩ := rx.two e
    have h1 := ra.int r ea
    have h2 := rb.int r eb
    subst h1 h2
    exact call_min2 hc pins s σ H _ us Q I rr ⟨_, _, rfl, dl.int r⟩
  · cases hz
    obtain ⟨a, b, v, w, rfl, rfl, ra, rb, ea, eb⟩ := rx.two e
    have h1 := ra.str r ea
    have h2 := rb.str r eb
    subst h1 h2
    exact call_minS2 hc pins s σ H _ us Q I rr ⟨_, _, rfl, dl.str r rfl⟩
  · split at hz
    · rename_i is hi
      obtain ⟨m, hm, rfl⟩ := Option.map_eq_some_iff.mp hz
      obtain ⟨a, v, rfl, rfl, ra, ea⟩ := rx.one e
      obtain ⟨p, ws, rfl, t, q⟩ := ra.lst r ea
      obtain ⟨h1, h2, h3⟩ := minL_ok hm
      have hw := q.ints hi
      subst hw
      refine cr_min hc pins s σ H _ us Q I rr ⟨p, is, rfl, SqL.of t, h1, fun m' e1 e2 => ?_⟩
      have : m' = m := Int.le_antisymm (e2 m h2) (h3 m' e1)
      subst this
      exact dl.int r
    · split at hz
      · rename_i ss hi
        obtain ⟨m, hm, rfl⟩ := Option.map_eq_some_iff.mp hz
        obtain ⟨a, v, rfl, rfl, ra, ea⟩ := rx.one e
        obtain ⟨p, ws, rfl, t, q⟩ := ra.lst r ea
        have hw := q.texts hi
        subst hw
        exact cr_minS hc pins s σ H _ us Q I rr ⟨p, ss, m, rfl, SqL.of t, hm, dl.str r rfl⟩
      · obtain ⟨ns, hn, hz⟩ := Option.bind_eq_some_iff.mp hz
        obtain ⟨h0, rfl⟩ := bestQ_ok hz
        obtain ⟨a, v, rfl, rfl, ra, ea⟩ := rx.one e
        obtain ⟨p, ws, rfl, t, q⟩ := ra.lst r ea
        obtain ⟨ps, rfl, pr⟩ := RVs.pairs hn q
        refine cr_minP hc hu pins s σ H _ us Q I rr ⟨p, ps, ns, rfl, SqL.of t, pr, h0, fun p1 e1 => ?_⟩
        obtain ⟨n, e2, hn2⟩ := paired_get pr e1
        refine dl S (.ref p1) H (Ext.refl _ _) r ?_
        rw [List.getD_eq_getElem?_getD, e2]
        unfold RV
        exact ⟨p1, _, rfl, hn2, .cons (by unfold RV; rfl) (.cons (by unfold RV; rfl) .nil)⟩
  · cases hz
theorem cR_max (hc : X.calm = true) (hu : X.A.units + 1 < cLine) : CallR X (.builtin "max") (rBl X.K maxD) := by
  intro pins s σ H vs us Q I rr h
  obtain ⟨S, h, xs, ds, z, r, rx, e, hz, dl⟩ := h
  unfold maxD at hz
  split at hz
  · cases hz
    obtain ⟨a, b, v, w, rfl, rfl, ra, rb, ea, eb⟩ := rx.two e
    have h1 := ra.int r ea
    have h2 := rb.int r eb
    subst h1 h2
    exact call_max2 hc pins s σ H _ us Q I rr ⟨_, _, rfl, dl.int r⟩
  · split at hz
    · rename_i is hi
      obtain ⟨m, hm, rfl⟩ := Option.map_eq_some_iff.mp hz
      obtain ⟨a, v, rfl, rfl, ra, ea⟩ := rx.one e
      obtain ⟨p, ws, rfl, t, q⟩ := ra.lst r ea
      obtain ⟨h1, h2, h3⟩ := maxL_ok hm
      have hw := q.ints hi
      subst hw
      refine cr_max hc pins s σ H _ us Q I rr ⟨p, is, rfl, SqL.of t, h1, fun m' e1 e2 => ?_⟩
      have : m' = m := Int.le_antisymm (h3 m' e1) (e2 m h2)
      subst this
      exact dl.int r
    · obtain ⟨ns, hn, hz⟩ := Option.bind_eq_some_iff.mp hz
      obtain ⟨h0, rfl⟩ := bestQ_ok hz
      obtain ⟨a, v, rfl, rfl, ra, ea⟩ := rx.one e
      obtain ⟨p, ws, rfl, t, q⟩ := ra.lst r ea
      obtain ⟨ps, rfl, pr⟩ := RVs.pairs hn q
      refine cr_maxP hc hu pins s σ H _ us Q I rr ⟨p, ps, ns, rfl, SqL.of t, pr, h0, fun p1 e1 => ?_⟩
      obtain ⟨n, e2, hn2⟩ := paired_get pr e1
      refine dl S (.ref p1) H (Ext.refl _ _) r ?_
      rw [List.getD_eq_getElem?_getD, e2]
      unfold RV
      exact ⟨p1, _, rfl, hn2, .cons (by unfold RV; rfl) (.cons (by unfold RV; rfl) .nil)⟩
  · cases hz
section
variable {prog : Program} {w : World} {A : Around} {E : Value → Shared → Prop} {s : Shared} {l : Addr}
theorem sum_intTup {xs : Array (Int × PySem.Tok)} {Q : Value → Shared → Prop} (hh : A.handled = none) (hl : s.heap.IsTuple l (intItems xs))
    (h : ∀ h' tk t', (∀ b o, s.heap.get? b = some o → h'.get? b = some o) → Q (.int (preSum (numAt xs) xs.size) t') { s with heap := h', toks := tk }) :
    wpAny (model prog w) A (call (.builtin "sum") [.ref l]) Q E s := by
  have hlt : l < s.heap.objs.size := by obtain ⟨_, e, _⟩ := hl; exact Heap.lt_size e
  refine call_sum_walkG (wpAny_pyIter_tuple hl ?_)
  refine ⟨_, [_, l], [_], _, _, _, numAt xs, rfl, Walks.tuple (A := A.in1) hh _ l (Nat.ne_of_lt hlt) (intItems xs), ⟨⟨_, Heap.get?_push_size _ rfl, rfl, rfl⟩, hl.push _⟩, fun c hc => ?_, (fun _ _ => intItems_at), fun h' tk t' hk => ?_⟩
  · show c < (s.heap.push _).objs.size
    rw [Heap.size_push]
    rcases List.mem_cons.mp hc with rfl | hc
    · exact Nat.lt_succ_self _
    · rcases List.mem_cons.mp hc with rfl | hc
      · exact Nat.lt_succ_of_lt hlt
      · cases hc
  · have hold : ∀ c o, s.heap.get? c = some o → h'.get? c = some o := fun c o e => by
      refine hk c o (fun hm => ?_) (Heap.get?_push_of_some _ e)
      rcases List.mem_cons.mp hm with e1 | hm
      · have := Heap.lt_size e; rw [e1] at this; exact Nat.lt_irrefl _ this
      · cases hm
    have := h h' tk t' hold
    simpa [intItems] using this
theorem sum_rawT {its : List Value} {ns : List Int} {Q : Value → Shared → Prop} (hh : A.handled = none) (hl : s.heap.IsTuple l its.toArray) (hi : IntsAre its ns)
    (h : ∀ h' tk t', (∀ b o, s.heap.get? b = some o → h'.get? b = some o) → Q (.int ns.sum t') { s with heap := h', toks := tk }) : wpAny (model prog w) A (call (.builtin "sum") [.ref l]) Q E s := by
  obtain ⟨xs, e⟩ := hi.allInts.items
  have hn : numsOf (intItems xs).toList = ns := by rw [← e]; exact hi.numsOf
  rw [nums_intItems] at hn
  rw [e] at hl
  refine sum_intTup hh hl fun h' tk t' hk => ?_
  have := h h' tk t' hk
  rw [preSum_eq, List.take_of_length_le (by simp), hn]; exact this
end
theorem cr_sumT (hc : X.calm = true) : CallR X (.builtin "sum") (fun vs H Q => ∃ (a : Addr) (ns : List Int), vs = [V.ref a] ∧ SqT X.K H a (ns.map V.int) ∧ Q (.int ns.sum) H) := by
  intro pins s σ H vs us Q I r h
  obtain ⟨a, ns, rfl, hs, q⟩ := h
  obtain ⟨its, rv, hl, _⟩ := I.tuple hs
  rw [Vals.ref1 r]
  exact sum_rawT (I.ok.hd hc) hl rv.ints fun h' tk t' hk => ⟨.int _, H, I.kept hk, ⟨_, rfl⟩, q⟩
theorem cR_sum (hc : X.calm = true) : CallR X (.builtin "sum") (rBl X.K sumD) := by
  intro pins s σ H vs us Q I rr h
  obtain ⟨S, h, xs, ds, z, r, rx, e, hz, dl⟩ := h
  unfold sumD at hz
  split at hz
  · obtain ⟨is, hi, rfl⟩ := Option.map_eq_some_iff.mp hz
    obtain ⟨a, v, rfl, rfl, ra, ea⟩ := rx.one e
    obtain ⟨p, ws, rfl, t, q⟩ := ra.lst r ea
    have hw := q.ints hi
    subst hw
    exact cr_sum hc pins s σ H _ us Q I rr ⟨p, is, rfl, SqL.of t, dl.int r⟩
  · obtain ⟨is, hi, rfl⟩ := Option.map_eq_some_iff.mp hz
    obtain ⟨a, v, rfl, rfl, ra, ea⟩ := rx.one e
    obtain ⟨p, ws, rfl, t, q⟩ := ra.tup r ea
    have hw := q.ints hi
    subst hw
    exact cr_sumT hc pins s σ H _ us Q I rr ⟨p, is, rfl, t, dl.int r⟩
  · cases hz
theorem cR_all (hc : X.calm = true) : CallR X (.builtin "all") (rBl X.K allD) := by
  intro pins s σ H vs us Q I rr h
  obtain ⟨S, h, xs, ds, z, r, rx, e, hz, dl⟩ := h
  unfold allD at hz
  split at hz
  · obtain ⟨is, hi, rfl⟩ := Option.map_eq_some_iff.mp hz
    obtain ⟨a, v, rfl, rfl, ra, ea⟩ := rx.one e
    obtain ⟨p, ws, rfl, t, q⟩ := ra.lst r ea
    have hw := q.bls hi
    subst hw
    exact cr_all hc pins s σ H _ us Q I rr ⟨p, is, rfl, SqL.of t, dl.bl r⟩
  · cases hz
theorem cR_any (hc : X.calm = true) : CallR X (.builtin "any") (rBl X.K anyD) := by
  intro pins s σ H vs us Q I rr h
  obtain ⟨S, h, xs, ds, z, r, rx, e, hz, dl⟩ := h
  unfold anyD at hz
  split at hz
  · obtain ⟨is, hi, rfl⟩ := Option.map_eq_some_iff.mp hz
    obtain ⟨a, v, rfl, rfl, ra, ea⟩ := rx.one e
    obtain ⟨p, ws, rfl, t, q⟩ := ra.lst r ea
    have hw := q.bls hi
    subst hw
    exact cr_any hc pins s σ H _ us Q I rr ⟨p, is, rfl, SqL.of t, dl.bl r⟩
  · cases hz
theorem cR_tuple : CallR X (.type "tuple") (rBl X.K tupleD) := by
  intro pins s σ H vs us Q I rr h
  obtain ⟨S, h, xs, ds, z, r, rx, e, hz, dl⟩ := h
  unfold tupleD at hz
  split at hz
  · cases hz
    obtain ⟨a, v, rfl, rfl, ra, ea⟩ := rx.one e
    obtain ⟨p, ws, rfl, t, q⟩ := ra.lst r ea
    exact call_tuple_of pins s σ H _ us Q I rr ⟨p, ws, rfl, .inl ⟨SqL.of t, dl.tup r q⟩⟩
  · cases hz
    obtain ⟨a, v, rfl, rfl, ra, ea⟩ := rx.one e
    obtain ⟨p, ws, rfl, t, q⟩ := ra.tup r ea
    exact call_tuple_of pins s σ H _ us Q I rr ⟨p, ws, rfl, .inr ⟨t, dl.tupAt r t q⟩⟩
  · cases hz
theorem cR_list : CallR X (.type "list") (rBl X.K listD) := by
  intro pins s σ H vs us Q I rr h
  obtain ⟨S, h, xs, ds, z, r, rx, e, hz, dl⟩ := h
  unfold listD at hz
  split at hz
  · cases hz
    obtain ⟨a, v, rfl, rfl, ra, ea⟩ := rx.one e
    obtain ⟨p, ws, rfl, t, q⟩ := ra.lst r ea
    exact call_list_of pins s σ H _ us Q I rr ⟨p, ws, rfl, .inl (SqL.of t), dl.lst r q⟩
  · cases hz
    obtain ⟨a, v, rfl, rfl, ra, ea⟩ := rx.one e
    obtain ⟨p, ws, rfl, t, q⟩ := ra.tup r ea
    exact call_list_of pins s σ H _ us Q I rr ⟨p, ws, rfl, .inr t, dl.lst r q⟩
  · cases hz
theorem cR_abs : CallR X (.builtin "abs") (rBl X.K absD) := by
  intro pins s σ H vs us Q I rr h
  obtain ⟨S, h, xs, ds, z, r, rx, e, hz, dl⟩ := h
  unfold absD at hz
  split at hz
  · cases hz
    obtain ⟨a, v, rfl, rfl, ra, ea⟩ := rx.one e
    have h1 := ra.int r ea
    subst h1
    exact call_abs pins s σ H _ us Q I rr ⟨_, rfl, dl.int r⟩
  · cases hz
def ityS : Ity → String
  | .int => "int" | .bool => "bool" | .str => "str" | .tuple => "tuple" | .list => "list"
def tyS : D → String
  | .non => "NoneType" | .bl _ => "bool" | .int _ => "int" | .str _ => "str" | .tup _ => "tuple" | .lst _ => "list" | .opq _ => "" | .obj _ _ => "" | .dct _ => ""
theorem ity_kit : ∀ (t : Ity) (d : D) (b : Bool), ityD t d = some b → kitB (tyS d) (ityS t) = some b := by
  intro t d b h
  cases t <;> cases d <;> first
    | (simp [ityD] at h; done)
    | (simp only [ityD] at h; cases h; simp only [tyS, ityS]; decide +kernel)
theorem RW.tyX {K : PySem.W.Frag} {S : Sg} {H : Hp} {h : Hq} {a : Vv} {x : V} {p : D} (r : RelH K S H h) (ra : RW K S H a x) (ea : rdV h a = some p) (hn : ∀ n, p ≠ .opq n) (hn2 : ∀ c n, p ≠ .obj c n) (hn3 : ∀ n, p ≠ .dct n) : TyX K H x (.type (tyS p)) := by
  rcases ra.view r ea with q | ⟨ds, c, vs, rfl, rfl, e3, _⟩ | ⟨c, ds, e⟩ | ⟨ds, _, _, _, e, _⟩
  · cases p with
    | non => unfold RV at q; subst q; exact .base .non
    | bl b => unfold RV at q; subst q; exact .base (.bl b)
    | int i => unfold RV at q; subst q; exact .base (.int i)
    | str s => unfold RV at q; subst q; exact .base (.str _)
    | tup xs =>
      unfold RV at q
      obtain ⟨c, vs, rfl, t, _⟩ := q
      rcases t with (t | ⟨o, t⟩) | ⟨o, _, _, t, t2, _⟩
      · exact .base (.tup t)
      · exact .fTuple t
      · exact .kTuple t t2
    | lst xs =>
      unfold RV at q
      obtain ⟨c, vs, rfl, t, _⟩ := q
      exact .base (.lst t)
    | opq n => exact absurd rfl (hn n)
    | obj c n => exact absurd rfl (hn2 c n)
    | dct n => exact absurd rfl (hn3 n)
  · exact .base (.lst e3)
  · exact absurd e (hn2 c ds)
  · exact absurd e (hn3 ds)
theorem RVs.atI {K : PySem.W.Frag} {S : Sg} {H : Hp} {ds : List D} {vs : List V} {i : Int} {d : D} (q : RVs K S H ds vs) (e : atD ds i = some d) : ∃ v, atI vs i = some v ∧ RV K S H d v := by
  unfold atD at e
  obtain ⟨j, e1, e2⟩ := Option.bind_eq_some_iff.mp e
  obtain ⟨v, e3, r⟩ := q.get e2
  refine ⟨v, ?_, r⟩
  unfold L2.atI
  rw [q.length]
  have : ixN ds.length i = some j := e1
  rw [this]
  exact e3
theorem iR_sub : IxR X (rOp X.K subD) := by
  intro value slice pins s σ H x y v u Q I rx ry h hs
  obtain ⟨S, h, a, b, p, q, z, r, ra, rb, ea, eb, hz, dl⟩ := h
  unfold subD at hz
  split at hz
  · obtain ⟨p1, vs, rfl, t1, q1⟩ := ra.tup r ea
    obtain ⟨w, e1, rw1⟩ := q1.atI hz
    exact ix_tup value slice pins s σ H _ y v u Q I rx ry ⟨p1, vs, _, w, rfl, rb.int r eb, t1, e1, dl.here r rw1⟩ hs
  · obtain ⟨p1, vs, rfl, t1, q1⟩ := ra.lst r ea
    obtain ⟨w, e1, rw1⟩ := q1.atI hz
    exact ix_list value slice pins s σ H _ y v u Q I rx ry ⟨p1, vs, _, w, rfl, rb.int r eb, SqL.of t1, e1, dl.here r rw1⟩ hs
  · split at hz
    · rename_i hl
      obtain ⟨c, e1, rfl⟩ := Option.map_eq_some_iff.mp hz
      refine ix_str value slice pins s σ H x y v u Q I rx ry ⟨_, _, c, ra.str r ea, rb.int r eb, ?_, ?_, dl.str r rfl⟩ hs
      · simp only [Str.length, List.size_toArray]; exact Nat.le_trans hl lim_le
      · simp only [List.toList_toArray]; exact e1
    · cases hz
  · cases hz
def rSl (K : PySem.W.Frag) : V → Option Int → Option Int → Hp → VK → Prop := fun x lo hi H Q => ∃ S h a p z, RelH K S H h ∧ RW K S H a x ∧ rdV h a = some p ∧ slcD p lo hi = some z ∧ Dl K S H h z Q
theorem sIxD_eq (n d : Nat) (o : Option Int) : sIxD n d o = HT.sIx n d o := by cases o <;> rfl
theorem RVs.cut {K : PySem.W.Frag} {S : Sg} {H : Hp} {ds : List D} {vs : List V} (q : RVs K S H ds vs) (lo hi : Option Int) : RVs K S H (cutD ds lo hi) (cutV vs lo hi) := by
  unfold cutD cutV
  rw [q.length, sIxD_eq, sIxD_eq]
  exact (q.drop _).take _
theorem sR_slc : SlR X (rSl X.K) := by
  intro pins s σ H x v vl vu lo hi sl Q I rx hs pl pu h
  obtain ⟨S, h, a, p, z, r, ra, ea, hz, dl⟩ := h
  unfold slcD at hz
  split at hz
  · cases hz
    obtain ⟨p1, vs, rfl, t1, q1⟩ := ra.tup r ea
    refine sl_tupA pins s σ H _ v vl vu _ _ sl Q I rx hs pl pu ⟨p1, vs, rfl, t1, fun e => ?_, fun _ => dl.tup r (q1.cut _ _)⟩
    refine dl.tupAt r t1 ?_
    have q2 := q1.cut lo hi
    have e2 : cutV vs lo hi = vs := by
      unfold cutV
      rw [e.1, e.2]
      simp
    rw [e2] at q2
    exact q2
  · cases hz
    obtain ⟨p1, vs, rfl, t1, q1⟩ := ra.lst r ea
    exact sl_list pins s σ H _ v vl vu _ _ sl Q I rx hs pl pu ⟨p1, vs, rfl, SqL.of t1, dl.lst r (q1.cut _ _)⟩
  · split at hz
    · rename_i hl
      cases hz
      refine sl_str pins s σ H x v vl vu _ _ sl Q I rx hs pl pu ⟨_, ra.str r ea, ?_, dl.str r ?_⟩
      · simp only [Str.length, List.size_toArray]; exact Nat.le_trans hl lim_le
      · unfold cutS cutD
        simp only [Str.length, List.size_toArray, sIxD_eq]
    · cases hz
  · cases hz
theorem RW.tru {K : PySem.W.Frag} {S : Sg} {H : Hp} {h : Hq} {a : Vv} {x : V} {p : D} {k : Bool} (r : RelH K S H h) (ra : RW K S H a x) (ea : rdV h a = some p) (e : truD p = some k) : TruV K x H k := by
  cases p with
  | non => have := ra.non r ea; subst this; cases e; rfl
  | bl b => have := ra.bl r ea; subst this; cases e; rfl
  | int i => have := ra.int r ea; subst this; cases e; rfl
  | str s =>
    have := ra.str r ea
    subst this
    simp only [truD] at e
    split at e
    · rename_i hl
      cases e
      refine ⟨?_, ?_⟩
      · simp only [Str.length, List.size_toArray]; exact Nat.le_trans hl lim_le
      · simp only [Str.length, List.size_toArray]
        cases s with
        | nil => rfl
        | cons a t =>
          rw [List.length_cons]
          show (!false) = _
          have h0 : ((t.length + 1 : Nat) : Int) ≠ 0 := by omega
          exact (bne_iff_ne.mpr h0).symm
    · cases e
  | tup xs =>
    obtain ⟨p1, vs, rfl, t1, q1⟩ := ra.tup r ea
    cases e
    refine .inr (.inl ⟨vs, t1, ?_⟩)
    have := q1.length
    cases xs <;> cases vs <;> simp at this ⊢
  | lst xs =>
    obtain ⟨p1, vs, rfl, t1, q1⟩ := ra.lst r ea
    cases e
    refine .inl ⟨vs, SqL.of t1, ?_⟩
    have := q1.length
    cases xs <;> cases vs <;> simp at this ⊢
  | opq n => cases e
  | obj c n => cases e
  | dct n => cases e
theorem joinS_eq (s : List Nat) : ∀ ss : List (List Nat), Str.mk (joinS s ss).toArray = Str.join ⟨s.toArray⟩ (ss.map fun t => Str.mk t.toArray)
  | [] => rfl
  | [x] => rfl
  | x :: y :: r => by
    have ih := joinS_eq s (y :: r)
    show Str.mk (x ++ s ++ joinS s (y :: r)).toArray = Str.mk x.toArray ++ Str.mk s.toArray ++ Str.join ⟨s.toArray⟩ ((y :: r).map fun t => Str.mk t.toArray)
    rw [← ih]
    show Str.mk _ = Str.mk ((x.toArray ++ s.toArray) ++ (joinS s (y :: r)).toArray)
    simp
def rMt (K : PySem.W.Frag) (f : D → D → Option D) : V → List V → Hp → VK → Prop := fun x ys H Q => ∃ y, ys = [y] ∧ rOp K f x y H Q
theorem mR_join : MtR X "str.join" (rMt X.K (mthD .join)) := by
  intro pins st σ H x ys v us Q I rx rs h
  obtain ⟨y, rfl, S, h, a, b, p, q, z, r, ra, rb, ea, eb, hz, dl⟩ := h
  replace hz : joinD p q = some z := hz
  unfold joinD at hz
  split at hz
  · obtain ⟨ss, hs, hz⟩ := Option.bind_eq_some_iff.mp hz
    split at hz
    · rename_i hl
      cases hz
      obtain ⟨p1, vs, rfl, t1, q1⟩ := rb.lst r eb
      have hw := q1.texts hs
      subst hw
      refine mt_join pins st σ H x _ v us Q I rx rs ⟨_, p1, _, ra.str r ea, rfl, .inl (SqL.of t1), ?_, dl.str r ?_⟩
      · simp only [List.map_map, List.length_map, Str.length, List.size_toArray]
        have e : (ss.map ((fun x => x.cps.size) ∘ fun s => Str.mk s.toArray)) = ss.map List.length := by
          refine List.map_congr_left fun t _ => ?_
          simp
        rw [e]
        exact Nat.le_trans hl (by decide)
      · rw [TL.join_eq, joinS_eq]
    · cases hz
  · cases hz
theorem splS_eq {c : Nat} : ∀ (s acc : List Nat), splS c acc s = TL.spl [c] 0 acc s
  | [], acc => by rw [TL.spl_nil]; rfl
  | x :: r, acc => by
    rw [splS]
    by_cases h : x = c
    · subst h
      rw [if_pos rfl, TL.spl_hit (by simp [TL.pre]), splS_eq r []]
      rfl
    · rw [if_neg h, splS_eq r]
      rw [TL.spl, if_neg (by simp [TL.pre, h])]
theorem RVs.strs {K : PySem.W.Frag} {S : Sg} {H : Hp} : ∀ l : List (List Nat), RVs K S H (l.map D.str) (l.map fun s => V.str ⟨s.toArray⟩)
  | [] => .nil
  | s :: l => .cons (by unfold RV; rfl) (RVs.strs l)
theorem mR_split : MtR X "str.split" (rMt X.K (mthD .split)) := by
  intro pins st σ H x ys v us Q I rx rs h
  obtain ⟨y, rfl, S, h, a, b, p, q, z, r, ra, rb, ea, eb, hz, dl⟩ := h
  replace hz : splitD p q = some z := hz
  unfold splitD at hz
  split at hz
  · rename_i s c
    split at hz
    · rename_i hc
      cases hz
      have h1 := ra.str r ea
      have h2 := rb.str r eb
      subst h1 h2
      refine mt_split pins st σ H _ _ v us Q I rx rs ⟨_, _, rfl, rfl, by simp [Str.length], ?_, ?_⟩
      · show s.toArray.size + 2 ≤ sizeLine
        rw [List.size_toArray]
        exact Nat.le_trans (show s.length + 2 ≤ 1002 by omega) (by decide)
      · have e1 := SX.split_S (a := s) (b := [c]) (by simp) (by simp; omega)
        have e2 : Txt.split ⟨s.toArray⟩ ⟨[c].toArray⟩ = (TL.spl [c] 0 [] s).map fun t => Str.mk t.toArray := e1
        rw [e2, ← splS_eq]
        intro p hp
        rw [List.map_map]
        exact dl.lst r (RVs.strs _) p hp
    · cases hz
  · cases hz
theorem cR_str : CallR X (.type "str") (rBl X.K strD) := by
  intro pins s σ H vs us Q I rr h
  obtain ⟨S, h, xs, ds, z, r, rx, e, hz, dl⟩ := h
  unfold strD at hz
  split at hz
  · cases hz
    obtain ⟨a, v, rfl, rfl, ra, ea⟩ := rx.one e
    have h1 := ra.str r ea
    subst h1
    exact SkE.call_str_str pins s σ H _ us Q I rr ⟨_, rfl, dl.str r rfl⟩
  · rename_i i
    split at hz
    · rename_i hi
      obtain ⟨t, ht, rfl⟩ := Option.map_eq_some_iff.mp hz
      obtain ⟨a, v, rfl, rfl, ra, ea⟩ := rx.one e
      have h1 := ra.int r ea
      subst h1
      obtain ⟨n, rfl⟩ : ∃ n : Nat, i = (n : Int) := ⟨i.toNat, by omega⟩
      rw [Int.toNat_natCast] at ht
      have hn : n < 10 := by
        unfold digits at ht
        split at ht <;> first | omega | cases ht
      refine call_str_int pins s σ H _ us Q I rr ⟨_, rfl, ?_, dl.str r ?_⟩
      · match n, hn with
        | 0, _ => decide
        | 1, _ => decide
        | 2, _ => decide
        | 3, _ => decide
        | 4, _ => decide
        | 5, _ => decide
        | 6, _ => decide
        | 7, _ => decide
        | 8, _ => decide
        | 9, _ => decide
      · match n, hn, ht with
        | 0, _, ht => cases ht; decide +kernel
        | 1, _, ht => cases ht; decide +kernel
        | 2, _, ht => cases ht; decide +kernel
        | 3, _, ht => cases ht; decide +kernel
        | 4, _, ht => cases ht; decide +kernel
        | 5, _, ht => cases ht; decide +kernel
        | 6, _, ht => cases ht; decide +kernel
        | 7, _, ht => cases ht; decide +kernel
        | 8, _, ht => cases ht; decide +kernel
        | 9, _, ht => cases ht; decide +kernel
    · cases hz
  · cases hz
theorem call_int_txt {t : List Nat} {n : Int} (hn : PySem.intText? ⟨t.toArray⟩ = some n) (hl : t.length ≤ 640) : CallR X (.type "int") (fun xs H Q => xs = [.str ⟨t.toArray⟩] ∧ Q (.int n) H) := by
  intro pins s σ H xs us Q I r h
  obtain ⟨rfl, q⟩ := h
  obtain ⟨u, rfl, tk, rfl⟩ := vals1 r
  exact PySem.W.KIN.call_text hn (by simpa [Str.length] using hl) ⟨.int _, H, I.tok _, ⟨_, rfl⟩, q⟩
theorem cR_int : CallR X (.type "int") (rBl X.K intD) := by
  intro pins s σ H vs us Q I rr h
  obtain ⟨S, h, xs, ds, z, r, rx, e, hz, dl⟩ := h
  unfold intD at hz
  split at hz
  · cases hz
    obtain ⟨a, v, rfl, rfl, ra, ea⟩ := rx.one e
    have h1 := ra.int r ea
    subst h1
    exact call_int1 pins s σ H _ us Q I rr (.inl ⟨_, rfl, dl.int r⟩)
  all_goals first
    | (cases hz
       obtain ⟨a, v, rfl, rfl, ra, ea⟩ := rx.one e
       have h1 := ra.str r ea
       subst h1
       exact call_int_txt (by decide +kernel) (by decide) pins s σ H _ us Q I rr ⟨rfl, dl.int r⟩)
    | cases hz
end
end Bk
namespace Bk
open PySem PySem.Spec PyProof.Rows L2
variable [MF] [PWc]
theorem ltP_iff (a b : Int × Int) : ltP a b = true ↔ a.1 < b.1 ∨ (a.1 = b.1 ∧ a.2 < b.2) := by
  unfold ltP
  split
  · rename_i h
    rw [decide_eq_true_iff]
    omega
  · rename_i h
    rw [decide_eq_true_iff]
    omega
theorem mem_insQ {p x : Int × Int} : ∀ {l : List (Int × Int)}, x ∈ insQ p l ↔ x = p ∨ x ∈ l
  | [] => by simp [insQ]
  | q :: r => by
    rw [insQ]
    split
    · simp
    · split
      · rename_i h
        subst h
        simp
      · rw [List.mem_cons, mem_insQ, List.mem_cons]
        constructor
        · rintro (h | h | h) <;> simp [h]
        · rintro (h | h | h) <;> simp [h]
theorem mem_sortQ {x : Int × Int} : ∀ {l : List (Int × Int)}, x ∈ sortQ l ↔ x ∈ l
  | [] => Iff.rfl
  | p :: l => by rw [sortQ, mem_insQ, mem_sortQ, List.mem_cons]
theorem insQ_pw {p : Int × Int} : ∀ {l : List (Int × Int)}, l.Pairwise (fun a b => ltP a b = true) → (insQ p l).Pairwise fun a b => ltP a b = true
  | [], _ => by simp [insQ]
  | q :: r, h => by
    obtain ⟨h1, h2⟩ := List.pairwise_cons.mp h
    rw [insQ]
    split
    · rename_i hp
      refine List.pairwise_cons.mpr ⟨fun x hx => ?_, h⟩
      rcases List.mem_cons.mp hx with rfl | hx
      · exact hp
      · have := h1 x hx
        rw [ltP_iff] at hp this ⊢
        omega
    · rename_i hp
      split
      · exact h
      · rename_i hne
        refine List.pairwise_cons.mpr ⟨fun x hx => ?_, insQ_pw h2⟩
        rcases mem_insQ.mp hx with rfl | hx
        · rw [ltP_iff] at hp ⊢
          have : ¬ (x.1 = q.1 ∧ x.2 = q.2) := fun z => hne (Prod.ext z.1 z.2)
          omega
        · exact h1 x hx
theorem sortQ_pw : ∀ l : List (Int × Int), (sortQ l).Pairwise fun a b => ltP a b = true
  | [] => .nil
  | p :: l => insQ_pw (sortQ_pw l)
theorem sorted_ext : ∀ {l m : List (Int × Int)}, l.Pairwise (fun a b => ltP a b = true) → m.Pairwise (fun a b => ltP a b = true) → (∀ x, x ∈ l ↔ x ∈ m) → l = m
  | [], [], _, _, _ => rfl
  | [], y :: m, _, _, h => by have := (h y).mpr List.mem_cons_self; cases this
  | x :: l, [], _, _, h => by have := (h x).mp List.mem_cons_self; cases this
  | x :: l, y :: m, h1, h2, h => by
    obtain ⟨a1, a2⟩ := List.pairwise_cons.mp h1
    obtain ⟨b1, b2⟩ := List.pairwise_cons.mp h2
    have irr : ∀ z : Int × Int, ¬ ltP z z = true := fun z q => by rw [ltP_iff] at q; omega
    have e : x = y := by
      rcases List.mem_cons.mp ((h x).mp List.mem_cons_self) with e | e
      · exact e
      · rcases List.mem_cons.mp ((h y).mpr List.mem_cons_self) with e' | e'
        · exact e'.symm
        · have q1 := b1 x e
          have q2 := a1 y e'
          rw [ltP_iff] at q1 q2
          exfalso
          omega
    subst e
    rw [sorted_ext a2 b2 fun z => ?_]
    constructor
    · intro hz
      rcases List.mem_cons.mp ((h z).mp (List.mem_cons_of_mem _ hz)) with rfl | q
      · exact absurd (a1 z hz) (irr z)
      · exact q
    · intro hz
      rcases List.mem_cons.mp ((h z).mpr (List.mem_cons_of_mem _ hz)) with rfl | q
      · exact absurd (b1 z hz) (irr z)
      · exact q
section
variable {X : Cx} {S : Sg} {H : Hp} {h : Hq}
def ksOf (as : List Addr) (ps : List (Int × Int)) : List (Addr × List Int) := (as.zip ps).map fun u => (u.1, [u.2.1, u.2.2])
theorem ks_facts {as : List Addr} {ps : List (Int × Int)} (pr : Paired (fun p n => SqT X.K H p [.int n.1, .int n.2]) as ps) :
    (ksOf as ps).map (fun p => V.ref p.1) = as.map V.ref ∧ (ksOf as ps).length = ps.length ∧ (∀ q ∈ ksOf as ps, ∃ n ∈ ps, q.2 = [n.1, n.2] ∧ SqT X.K H q.1 [.int n.1, .int n.2]) ∧ ∀ n ∈ ps, [n.1, n.2] ∈ (ksOf as ps).map (·.2) := by
  induction pr with
  | nil => exact ⟨rfl, rfl, fun q hq => (by cases hq), fun n hn => (by cases hn)⟩
  | cons h1 h2 ih =>
    rename_i a n as ps
    obtain ⟨i1, i2, i3, i4⟩ := ih
    have e : ksOf (a :: as) (n :: ps) = (a, [n.1, n.2]) :: ksOf as ps := rfl
    rw [e]
    refine ⟨by rw [List.map_cons, List.map_cons, i1], by rw [List.length_cons, List.length_cons, i2], fun q hq => ?_, fun m hm => ?_⟩
    · rcases List.mem_cons.mp hq with rfl | hq
      · exact ⟨n, List.mem_cons_self, rfl, h1⟩
      · obtain ⟨m, hm, e1, e2⟩ := i3 q hq
        exact ⟨m, List.mem_cons_of_mem _ hm, e1, e2⟩
    · rcases List.mem_cons.mp hm with rfl | hm
      · exact List.mem_cons_self
      · exact List.mem_cons_of_mem _ (i4 m hm)
theorem sst_ok {a : Vv} {v : V} {x z : D} {Q : VK} (r : RelH X.K S H h) (ra : RW X.K S H a v) (ea : rdV h a = some x) (hz : sstD x = some z) (dl : Dl X.K S H h z Q) :
    rSetOfT X.K X.prog X.w [v] H fun v2 H2 => rSortedT X.K X.prog X.w [v2] H2 Q := by
  unfold sstD at hz
  split at hz
  · rename_i xs
    obtain ⟨ps, hps, hz⟩ := Option.bind_eq_some_iff.mp hz
    split at hz
    · rename_i hc
      cases hz
      obtain ⟨p, vs, rfl, t, q⟩ := ra.lst r ea
      obtain ⟨as, rfl, pr⟩ := RVs.pairs hps q
      obtain ⟨k1, k2, k3, k4⟩ := ks_facts pr
      have hsm : ∀ n ∈ ps, TS.Bd 1000 [n.1, n.2] := fun n hn => by
        have := List.all_eq_true.mp hc.2 n hn
        unfold smallQ at this
        simp only [Bool.and_eq_true, decide_eq_true_eq] at this
        intro m hm
        rcases List.mem_cons.mp hm with rfl | hm
        · omega
        · rw [List.mem_singleton.mp hm]
          omega
      refine ⟨p, ksOf as ps, rfl, by rw [k1]; exact SqL.of t, fun u hu => ?_, by rw [k2]; exact hc.1, fun a0 L ha0 hL hL2 => ?_⟩
      · obtain ⟨n, hn, e1, e2⟩ := k3 u hu
        rw [e1]
        exact e2
      · have xn : Ext S H S (upd H a0 (SetTO X.prog X.w a0 L)) := ext_new ha0
        have rn : RelH X.K S (upd H a0 (SetTO X.prog X.w a0 L)) h := r.new ha0
        refine ⟨a0, L, 2, 1000, rfl, upd_same, fun u hu => ?_, by omega, fun u hu => ?_, fun L' p' pm nd hl pw hp' => ?_⟩
        · obtain ⟨n, hn, e1, e2⟩ := k3 u (hL u hu)
          rw [e1]
          exact r.keepT xn e2
        · obtain ⟨n, hn, e1, e2⟩ := k3 u (hL u hu)
          rw [e1]
          exact ⟨rfl, hsm n hn⟩
        · have dl' : Dl X.K S (upd H a0 (SetTO X.prog X.w a0 L)) h (.lst ((sortQ ps).map pairD)) Q := fun S' w' H' x' r' rv' => dl S' w' H' (xn.trans x') r' rv'
          have hN : ∀ u ∈ L', ∃ n ∈ ps, u.2 = [n.1, n.2] ∧ SqT X.K (upd H a0 (SetTO X.prog X.w a0 L)) u.1 [.int n.1, .int n.2] := fun u hu => by
            obtain ⟨n, hn, e1, e2⟩ := k3 u (hL u (pm.mem_iff.mp hu))
            exact ⟨n, hn, e1, r.keepT xn e2⟩
          -- the pairs in their new order
          obtain ⟨N, hN1, hN2⟩ : ∃ N : List (Int × Int), L'.map (·.2) = N.map (fun n => [n.1, n.2]) ∧ RVs X.K S (upd H a0 (SetTO X.prog X.w a0 L)) (N.map pairD) (L'.map fun q => V.ref q.1) := by
            clear pm nd hl pw
            induction L' with
            | nil => exact ⟨[], rfl, .nil⟩
            | cons u L' ih =>
              obtain ⟨N, i1, i2⟩ := ih fun w hw => hN w (List.mem_cons_of_mem _ hw)
              obtain ⟨n, hn, e1, e2⟩ := hN u List.mem_cons_self
              refine ⟨n :: N, by rw [List.map_cons, List.map_cons, i1, e1], .cons ?_ i2⟩
              unfold pairD RV
              exact ⟨u.1, _, rfl, e2, .cons (by unfold RV; rfl) (.cons (by unfold RV; rfl) .nil)⟩
          have hmem : ∀ n, n ∈ N ↔ n ∈ ps := fun n => by
            have inj : ∀ a b : Int × Int, [a.1, a.2] = [b.1, b.2] → a = b := fun a b e => by
              simp only [List.cons.injEq, and_true] at e
              exact Prod.ext e.1 e.2
            constructor
            · intro hn
              have h1 : [n.1, n.2] ∈ L'.map (·.2) := by rw [hN1]; exact List.mem_map_of_mem (f := fun n : Int × Int => [n.1, n.2]) hn
              obtain ⟨u, hu, e1⟩ := List.mem_map.mp h1
              obtain ⟨m, hm, e2, _⟩ := hN u hu
              rw [inj n m (by rw [← e1, e2])]
              exact hm
            · intro hn
              have h1 := k4 n hn
              obtain ⟨u, hu, e1⟩ := List.mem_map.mp h1
              have h2 := hL2 u hu
              rw [e1] at h2
              obtain ⟨u2, hu2, e2⟩ := List.mem_map.mp h2
              have h3 : [n.1, n.2] ∈ L'.map (·.2) := List.mem_map.mpr ⟨u2, pm.mem_iff.mpr hu2, e2⟩
              rw [hN1] at h3
              obtain ⟨m, hm, e3⟩ := List.mem_map.mp h3
              rw [← inj m n e3]
              exact hm
          have hpw : N.Pairwise fun a b => ltP a b = true := by
            have q1 : (L'.map (·.2)).Pairwise fun a b => TS.code 1000 a ≤ TS.code 1000 b := by rw [List.pairwise_map]; exact pw
            rw [hN1] at q1 nd
            have q2 := List.pairwise_map.mp q1
            have q3 := List.pairwise_map.mp nd
            refine List.Pairwise.imp_of_mem (R := fun a b => TS.code 1000 [a.1, a.2] ≤ TS.code 1000 [b.1, b.2] ∧ [a.1, a.2] ≠ [b.1, b.2]) (fun {a b} ha hb hab => ?_) (q2.and q3)
            have := code_lex (hsm a ((hmem a).mp ha)) (hsm b ((hmem b).mp hb)) hab.1
            rw [ltP_iff]
            have hne : ¬ (a.1 = b.1 ∧ a.2 = b.2) := fun z => hab.2 (by rw [z.1, z.2])
            omega
          have hNs : N = sortQ ps := sorted_ext hpw (sortQ_pw ps) fun n => by rw [hmem, mem_sortQ]
          rw [hNs] at hN2
          exact dl'.lst rn hN2 p' hp'
    · cases hz
  · cases hz
end
end Bk
namespace Bk
open PySem PySem.Spec PyProof.Rows L2
section
variable {P : Program} {w : World} {A : Around} {E : Value → Shared → Prop} {s : Shared}
theorem call_set_listI {l : Addr} {items : Array Value} (ns : List Int) {Q : Value → Shared → Prop} (hh : A.handled = none) (hl : s.heap.IsList l items) (hit : IntsAre items.toList ns) (hb : ns.length + 1 < scanBound)
    (h : ∀ (h' : Heap) (tk c : Nat), SetR w h' s.heap.objs.size (fun j => decide (j ∈ ns)) c → c ≤ ns.length → (∀ b o, s.heap.get? b = some o → h'.get? b = some o) → Q (.ref s.heap.objs.size) { s with heap := h', toks := tk }) :
    wpAny (model P w) A (call (.type "set") [.ref l]) Q E s := by
  have hisz : items.size = ns.length := by
    have q := IntsAre.length hit
    rw [Array.length_toList] at q
    exact q
  obtain ⟨c, tl, hmro⟩ := F.called_set.mro
  have hmade := F.called_set.made
  have hsub := F.called_set.sub
  refine wpAny_call (codeAny_of_tree ?_)
  show wpAny _ _ (callAny (.type "set") _) _ _ _
  refine wpAny_pure ⟨Code.quiet_builtin _ (by decide +kernel), codeAny_builtin F.entry_type_call ?_⟩
  rw [Around.under_plain (weight_type_call_type "set" [.ref l] []) rfl]
  have h1 := F.called_set.notType
  have h2 := F.called_set.canCreate
  have hct := F.typeCall_set_1 (.ref l)
  repeat (any_goals (first | assumption | wp_step))
  refine codeAny_mono (code_set_led1 (.ref l) (E := E) (Q₁ := fun obj s₁ => obj = .ref s.heap.objs.size ∧ s₁ = { s with heap := s.heap.push { cls := .type "set", dict := none, data := .set #[] 0 (.fresh 0 0 (!w.params.followText "set-order")) } }) ⟨rfl, rfl⟩) fun r s₁ hr => ?_
  cases r with
  | error e => exact hr
  | ok fl =>
    cases fl with
    | ret obj =>
      obtain ⟨rfl, rfl⟩ := hr
      have hS : (s.heap.push { cls := .type "set", dict := none, data := .set #[] 0 (.fresh 0 0 (!w.params.followText "set-order")) }).get? s.heap.objs.size = some { cls := .type "set", dict := none, data := .set #[] 0 (.fresh 0 0 (!w.params.followText "set-order")) } := Heap.get?_push_size _ rfl
      have hT : Shared.TypeIs { s with heap := s.heap.push { cls := .type "set", dict := none, data := .set #[] 0 (.fresh 0 0 (!w.params.followText "set-order")) } } (.ref s.heap.objs.size) "set" := ⟨_, hS, rfl⟩
      have hli := F.called_set.init.lookup
      have hbi := F.called_set.init.bind (.ref s.heap.objs.size)
      repeat (any_goals (first | assumption | wp_step))
      refine codeAny_mono (codeAny_call_builtin (R := wants (fun r s₂ => r = .none ∧ ∃ h' tk c, s₂ = { s with heap := h', toks := tk } ∧ SetR w h' s.heap.objs.size (fun j => decide (j ∈ ns)) c ∧ c ≤ ns.length ∧
          (∀ b o, s.heap.get? b = some o → h'.get? b = some o)) E) F.called_set.init.plain F.entry_set_init (check_set_init_1 hT ?_)) fun r₂ s₂ hr₂ => ?_
      · obtain ⟨ol, hol, hcl, nl, hdl⟩ := hl
        obtain ⟨ocls, odict, odata, oslots⟩ := ol
        simp only at hcl hdl
        subst hcl; subst hdl
        have hol' : (s.heap.push { cls := .type "set", dict := none, data := .set #[] 0 (.fresh 0 0 (!w.params.followText "set-order")) }).get? l = some { cls := .type "list", dict := odict, data := .seq items nl, slots := oslots } := Heap.get?_push_of_some _ hol
        have hsls := F.sub_list_set
        have hslf := F.sub_list_frozenset
        have hne : (Value.type "list" == Value.type "dict") = false := by decide
        have hl1 : (s.heap.push { cls := .type "set", dict := none, data := .set #[] 0 (.fresh 0 0 (!w.params.followText "set-order")) }).IsList l items := ⟨_, hol', rfl, nl, rfl⟩
        unfold Builtin.«set.__init__» noKeywords Builtin.Frozenset.updateFrom
        generalize hPI : pyIter = PI
        wp_walk
        subst hPI
        refine wpAny_pyIter_list hl1 ?_
        refine wpAny_bind (wpAny_runValue ?_)
        have hlS : l < s.heap.objs.size := Heap.lt_size hol
        have hh3 : A.in1.in1.in1.handled = none := by simp [hh]
        have hz1 : (s.heap.push { cls := .type "set", dict := none, data := .set #[] 0 (.fresh 0 0 (!w.params.followText "set-order")) }).objs.size = s.heap.objs.size + 1 := Heap.size_push ..
        have hneI : l ≠ (s.heap.push { cls := .type "set", dict := none, data := .set #[] 0 (.fresh 0 0 (!w.params.followText "set-order")) }).objs.size := by
          rw [Heap.size_push]; exact Nat.ne_of_lt (Nat.lt_succ_of_lt hlS)
        have hSf : s.heap.objs.size ∉ [(s.heap.push { cls := .type "set", dict := none, data := .set #[] 0 (.fresh 0 0 (!w.params.followText "set-order")) }).objs.size, l] := by
          rw [Heap.size_push]; simp only [List.mem_cons, List.mem_singleton, List.not_mem_nil, or_false, not_or]
          exact ⟨Nat.ne_of_lt (Nat.lt_succ_self _), Nat.ne_of_gt hlS⟩
        have hval : ∀ (i : Nat) (v : Value), items[i]? = some v → ∃ k t, ns[i]? = some k ∧ v = .int k t := fun i v hv => by
          have hi : i < ns.length := by rw [← hisz]; exact (Array.getElem?_eq_some_iff.mp hv).1
          obtain ⟨t, e⟩ := PyProof.Rows.IntsAre.int_at hit i v (by rw [Array.getElem?_toList]; exact hv)
          refine ⟨ns[i], t, List.getElem?_eq_getElem hi, ?_⟩
          rw [e, List.getD_eq_getElem?_getD, List.getElem?_eq_getElem hi] <;> rfl
        refine set_update_ints ((Walks.list hh3 _ l hneI items).toS) s.heap.objs.size
          hSf ns hisz hb hval (items.size - 0) 0 _ (by omega) (Nat.zero_le _)
          ⟨⟨_, Heap.get?_push_size _ rfl, rfl, rfl⟩, (hl1.push _)⟩ ?hS0 ?hR
        case hS0 =>
          have hget : ((s.heap.push { cls := .type "set", dict := none, data := .set #[] 0 (.fresh 0 0 (!w.params.followText "set-order")) }).push { cls := .type "list_iterator", data := .fields #[.ref l, .int 0 0] }).get? s.heap.objs.size
              = some { cls := .type "set", dict := none, data := .set #[] 0 (.fresh 0 0 (!w.params.followText "set-order")) } := Heap.get?_push_of_some _ hS
          exact ⟨0, Nat.le_refl 0, setR_new_at hget⟩
        case hR =>
          intro s' c' hm hc' hS'
          obtain ⟨h', g2, d', tk', os'⟩ := s'
          have eg : g2 = s.gens := hm.gens
          have ed : d' = s.drawn := hm.drawn
          have eo : os' = s.os := hm.os
          subst eg; subst ed; subst eo
          show wpAny _ _ _ _ _ _
          refine wpAny_pure ?_
          show wpAny _ _ (ret Value.none) _ _ _
          rw [hisz] at hc'
          refine wpAny_pure ⟨rfl, h', tk', c', rfl, hS', hc', fun b o e => ?_⟩
          have hb0 : b < s.heap.objs.size := Heap.lt_size e
          have hb1 : b ≠ s.heap.objs.size := Nat.ne_of_lt hb0
          have hb2 : b ≠ (s.heap.push { cls := .type "set", dict := none, data := .set #[] 0 (.fresh 0 0 (!w.params.followText "set-order")) }).objs.size := by
            rw [Heap.size_push]; exact Nat.ne_of_lt (Nat.lt_succ_of_lt hb0)
          exact hm.heap b o (by simp only [List.mem_cons, List.mem_singleton, List.not_mem_nil, or_false, not_or]; exact ⟨hb1, hb2⟩) (Heap.get?_push_of_some _ (Heap.get?_push_of_some _ e))
      · cases r₂ with
        | error e => exact hr₂
        | ok fl₂ =>
          cases fl₂ with
          | ret r =>
            obtain ⟨rfl, h', tk, c', rfl, hS', hc', hk'⟩ := hr₂
            repeat (any_goals (first | assumption | wp_step))
            exact h _ _ _ hS' hc' hk'
          | _ => exact hr₂.elim
    | _ => exact hr.elim
theorem call_set_tupI {l : Addr} {items : Array Value} (ns : List Int) {Q : Value → Shared → Prop} (hh : A.handled = none) (hl : s.heap.IsTuple l items) (hit : IntsAre items.toList ns) (hb : ns.length + 1 < scanBound)
    (h : ∀ (h' : Heap) (tk c : Nat), SetR w h' s.heap.objs.size (fun j => decide (j ∈ ns)) c → c ≤ ns.length → (∀ b o, s.heap.get? b = some o → h'.get? b = some o) → Q (.ref s.heap.objs.size) { s with heap := h', toks := tk }) :
    wpAny (model P w) A (call (.type "set") [.ref l]) Q E s := by
  have hisz : items.size = ns.length := by
    have q := IntsAre.length hit
    rw [Array.length_toList] at q
    exact q
  obtain ⟨c, tl, hmro⟩ := F.called_set.mro
  have hmade := F.called_set.made
  have hsub := F.called_set.sub
  refine wpAny_call (codeAny_of_tree ?_)
  show wpAny _ _ (callAny (.type "set") _) _ _ _
  refine wpAny_pure ⟨Code.quiet_builtin _ (by decide +kernel), codeAny_builtin F.entry_type_call ?_⟩
  rw [Around.under_plain (weight_type_call_type "set" [.ref l] []) rfl]
  have h1 := F.called_set.notType
  have h2 := F.called_set.canCreate
  have hct := F.typeCall_set_1 (.ref l)
  repeat (any_goals (first | assumption | wp_step))
  refine codeAny_mono (code_set_led1 (.ref l) (E := E) (Q₁ := fun obj s₁ => obj = .ref s.heap.objs.size ∧ s₁ = { s with heap := s.heap.push { cls := .type "set", dict := none, data := .set #[] 0 (.fresh 0 0 (!w.params.followText "set-order")) } }) ⟨rfl, rfl⟩) fun r s₁ hr => ?_
  cases r with
  | error e => exact hr
  | ok fl =>
    cases fl with
    | ret obj =>
      obtain ⟨rfl, rfl⟩ := hr
      have hS : (s.heap.push { cls := .type "set", dict := none, data := .set #[] 0 (.fresh 0 0 (!w.params.followText "set-order")) }).get? s.heap.objs.size = some { cls := .type "set", dict := none, data := .set #[] 0 (.fresh 0 0 (!w.params.followText "set-order")) } := Heap.get?_push_size _ rfl
      have hT : Shared.TypeIs { s with heap := s.heap.push { cls := .type "set", dict := none, data := .set #[] 0 (.fresh 0 0 (!w.params.followText "set-order")) } } (.ref s.heap.objs.size) "set" := ⟨_, hS, rfl⟩
      have hli := F.called_set.init.lookup
      have hbi := F.called_set.init.bind (.ref s.heap.objs.size)
      repeat (any_goals (first | assumption | wp_step))
      refine codeAny_mono (codeAny_call_builtin (R := wants (fun r s₂ => r = .none ∧ ∃ h' tk c, s₂ = { s with heap := h', toks := tk } ∧ SetR w h' s.heap.objs.size (fun j => decide (j ∈ ns)) c ∧ c ≤ ns.length ∧
          (∀ b o, s.heap.get? b = some o → h'.get? b = some o)) E) F.called_set.init.plain F.entry_set_init (check_set_init_1 hT ?_)) fun r₂ s₂ hr₂ => ?_
      · obtain ⟨ol, hol, hcl, nl, hdl⟩ := hl
        obtain ⟨ocls, odict, odata, oslots⟩ := ol
        simp only at hcl hdl
        subst hcl; subst hdl
        have hol' : (s.heap.push { cls := .type "set", dict := none, data := .set #[] 0 (.fresh 0 0 (!w.params.followText "set-order")) }).get? l = some { cls := .type "tuple", dict := odict, data := .seq items nl, slots := oslots } := Heap.get?_push_of_some _ hol
        have hsls := F.sub_tuple_set
        have hslf := F.sub_tuple_frozenset
        have hne : (Value.type "tuple" == Value.type "dict") = false := by decide
        have hl1 : (s.heap.push { cls := .type "set", dict := none, data := .set #[] 0 (.fresh 0 0 (!w.params.followText "set-order")) }).IsTuple l items := ⟨_, hol', rfl, nl, rfl⟩
        unfold Builtin.«set.__init__» noKeywords Builtin.Frozenset.updateFrom
        generalize hPI : pyIter = PI
        wp_walk
        subst hPI
        refine wpAny_pyIter_tuple hl1 ?_
        refine wpAny_bind (wpAny_runValue ?_)
        have hlS : l < s.heap.objs.size := Heap.lt_size hol
        have hh3 : A.in1.in1.in1.handled = none := by simp [hh]
        have hz1 : (s.heap.push { cls := .type "set", dict := none, data := .set #[] 0 (.fresh 0 0 (!w.params.followText "set-order")) }).objs.size = s.heap.objs.size + 1 := Heap.size_push ..
        have hneI : l ≠ (s.heap.push { cls := .type "set", dict := none, data := .set #[] 0 (.fresh 0 0 (!w.params.followText "set-order")) }).objs.size := by
          rw [Heap.size_push]; exact Nat.ne_of_lt (Nat.lt_succ_of_lt hlS)
        have hSf : s.heap.objs.size ∉ [(s.heap.push { cls := .type "set", dict := none, data := .set #[] 0 (.fresh 0 0 (!w.params.followText "set-order")) }).objs.size, l] := by
          rw [Heap.size_push]; simp only [List.mem_cons, List.mem_singleton, List.not_mem_nil, or_false, not_or]
          exact ⟨Nat.ne_of_lt (Nat.lt_succ_self _), Nat.ne_of_gt hlS⟩
        have hval : ∀ (i : Nat) (v : Value), items[i]? = some v → ∃ k t, ns[i]? = some k ∧ v = .int k t := fun i v hv => by
          have hi : i < ns.length := by rw [← hisz]; exact (Array.getElem?_eq_some_iff.mp hv).1
          obtain ⟨t, e⟩ := PyProof.Rows.IntsAre.int_at hit i v (by rw [Array.getElem?_toList]; exact hv)
          refine ⟨ns[i], t, List.getElem?_eq_getElem hi, ?_⟩
          rw [e, List.getD_eq_getElem?_getD, List.getElem?_eq_getElem hi] <;> rfl
        refine set_update_ints ((Walks.tuple hh3 _ l hneI items).toS) s.heap.objs.size
          hSf ns hisz hb hval (items.size - 0) 0 _ (by omega) (Nat.zero_le _)
          ⟨⟨_, Heap.get?_push_size _ rfl, rfl, rfl⟩, hl1.push _⟩ ?hS0 ?hR
        case hS0 =>
          have hget : ((s.heap.push { cls := .type "set", dict := none, data := .set #[] 0 (.fresh 0 0 (!w.params.followText "set-order")) }).push { cls := .type "tuple_iterator", data := .fields #[.ref l, .int 0 0] }).get? s.heap.objs.size
              = some { cls := .type "set", dict := none, data := .set #[] 0 (.fresh 0 0 (!w.params.followText "set-order")) } := Heap.get?_push_of_some _ hS
          exact ⟨0, Nat.le_refl 0, setR_new_at hget⟩
        case hR =>
          intro s' c' hm hc' hS'
          obtain ⟨h', g2, d', tk', os'⟩ := s'
          have eg : g2 = s.gens := hm.gens
          have ed : d' = s.drawn := hm.drawn
          have eo : os' = s.os := hm.os
          subst eg; subst ed; subst eo
          show wpAny _ _ _ _ _ _
          refine wpAny_pure ?_
          show wpAny _ _ (ret Value.none) _ _ _
          rw [hisz] at hc'
          refine wpAny_pure ⟨rfl, h', tk', c', rfl, hS', hc', fun b o e => ?_⟩
          have hb0 : b < s.heap.objs.size := Heap.lt_size e
          have hb1 : b ≠ s.heap.objs.size := Nat.ne_of_lt hb0
          have hb2 : b ≠ (s.heap.push { cls := .type "set", dict := none, data := .set #[] 0 (.fresh 0 0 (!w.params.followText "set-order")) }).objs.size := by
            rw [Heap.size_push]; exact Nat.ne_of_lt (Nat.lt_succ_of_lt hb0)
          exact hm.heap b o (by simp only [List.mem_cons, List.mem_singleton, List.not_mem_nil, or_false, not_or]; exact ⟨hb1, hb2⟩) (Heap.get?_push_of_some _ (Heap.get?_push_of_some _ e))
      · cases r₂ with
        | error e => exact hr₂
        | ok fl₂ =>
          cases fl₂ with
          | ret r =>
            obtain ⟨rfl, h', tk, c', rfl, hS', hc', hk'⟩ := hr₂
            repeat (any_goals (first | assumption | wp_step))
            exact h _ _ _ hS' hc' hk'
          | _ => exact hr₂.elim
    | _ => exact hr.elim
end
def SetIO (w : World) (a : Addr) (S : Int → Bool) (n : Nat) : HO := .ext fun h => SetR w h a S n
theorem setIO_new {P : Program} {w : World} {H : Hp} {h : Heap} {a : Addr} {S : Int → Bool} {n : Nat} (R : SetR w h a S n) : ObjOk P w H h a (SetIO w a S n) := by
  have ⟨o, es, ep, t, ho, q⟩ := R
  refine ⟨R, ⟨o, ho⟩, fun h1 h2 p k => ?_⟩
  have ⟨o', es', ep', t', ho', q'⟩ := (p : SetR w _ a S n)
  exact ⟨o', es', ep', t', k o' ho', q'⟩
theorem setR_count {w : World} {h : Heap} {a : Addr} {S : Int → Bool} {n : Nat} (R : SetR w h a S n) : ∃ ms : List Int, ms.Nodup ∧ ms.length = n ∧ ∀ k, k ∈ ms ↔ S k = true := by
  obtain ⟨o, es, ep, t, _, _, _, _, nd, hm, _, _, hn, _⟩ := R
  exact ⟨es.toList.map keyOf, nd, by rw [List.length_map, Array.length_toList]; exact hn, fun k => (hm k).symm⟩
theorem ints_of_valsI : ∀ {k : List Int} {us : List Value}, Vals (k.map V.int) us → IntsAre us k
  | [], _, .nil => .nil
  | n :: k, _, .cons r t => by
    obtain ⟨tk, rfl⟩ := r
    exact .cons n tk (ints_of_valsI t)
theorem vals_of_intsI : ∀ {k : List Int} {us : List Value}, IntsAre us k → Vals (k.map V.int) us
  | _, _, .nil => .nil
  | _, _, .cons n tk t => .cons ⟨tk, rfl⟩ (vals_of_intsI t)
section
variable {X : Cx}
def rSetOfI (K : PySem.W.Frag) (w : World) : List V → Hp → VK → Prop := fun xs H Q => ∃ (l : Addr) (ns : List Int), xs = [V.ref l] ∧ (SqL K H l (ns.map V.int) ∨ SqT K H l (ns.map V.int)) ∧ ns.length ≤ 4000 ∧
  ∀ a n, H a = none → (∃ ms : List Int, ms.Nodup ∧ ms.length = n ∧ ∀ k, k ∈ ms ↔ k ∈ ns) → Q (.ref a) (upd H a (SetIO w a (fun j => decide (j ∈ ns)) n))
theorem cr_setOfI (hc : X.calm = true) : CallR X (.type "set") (rSetOfI X.K X.w) := by
  intro pins s σ H xs us Q I r h
  obtain ⟨l, ns, rfl, hl, hf, q⟩ := h
  rw [Vals.ref1 r]
  have hn : H s.heap.objs.size = none := I.hok.fresh (Nat.le_refl _)
  have fin : ∀ (h' : Heap) (tk c : Nat), SetR X.w h' s.heap.objs.size (fun j => decide (j ∈ ns)) c → (∀ b o, s.heap.get? b = some o → h'.get? b = some o) → EP X pins σ Q (.ref s.heap.objs.size) { s with heap := h', toks := tk } := fun h' tk c R k => by
    obtain ⟨ms, m1, m2, m3⟩ := setR_count R
    exact ⟨.ref s.heap.objs.size, upd H s.heap.objs.size (SetIO X.w s.heap.objs.size (fun j => decide (j ∈ ns)) c), I.laid (t' := tk) k (Nat.le_refl _) (setIO_new R), rfl, q _ c hn ⟨ms, m1, m2, fun k => by rw [m3, decide_eq_true_iff]⟩⟩
  rcases hl with hl | hl
  · obtain ⟨its, rv, pl, hz⟩ := I.list hl
    exact call_set_listI (P := X.prog) (w := X.w) ns (I.ok.hd hc) pl.isList (by simpa using ints_of_valsI rv) (by have : scanBound = 4096 := rfl; omega) fun h' tk c R hle k => fin h' tk c R k
  · obtain ⟨its, rv, pl, hz⟩ := I.tuple hl
    exact call_set_tupI (P := X.prog) (w := X.w) ns (I.ok.hd hc) (show s.heap.IsTuple l its.toArray from pl) (by simpa using ints_of_valsI rv) (by have : scanBound = 4096 := rfl; omega) fun h' tk c R hle k => fin h' tk c R k
def rSortedI (w : World) : List V → Hp → VK → Prop := fun vs H Q => ∃ (a : Addr) (S : Int → Bool) (n : Nat), vs = [V.ref a] ∧ H a = some (SetIO w a S n) ∧ n < 64 ∧
  ∀ (ns : List Int) (p : Addr), ns.Pairwise (· < ·) → (∀ k, k ∈ ns ↔ S k = true) → H p = none → Q (.ref p) (upd H p (.lst (ns.map V.int)))
theorem cr_sortedI (hc : X.calm = true) : CallR X (.builtin "sorted") (rSortedI X.w) := by
  intro pins s σ H vs us Q I r h
  obtain ⟨a, S, n, rfl, ha, h64, q⟩ := h
  have R : SetR X.w s.heap a S n := (I.hok a _ ha).1
  rw [Vals.ref1 r]
  refine sorted_set R (I.ok.hd hc) h64 fun s' p out c ns k g o hp hg hout pw hm hl => ?_
  have hlen : (ns.map V.int).length ≤ sizeLine := by rw [List.length_map, sizeLine_eq]; omega
  have hn : H p = none := I.hok.fresh hp
  have J : Inv X pins σ (upd H p (.lst (ns.map V.int))) { s with heap := s'.heap, gens := s'.gens, drawn := s'.drawn, toks := s'.toks } :=
    I.call (ch := []) (Un.laid k hp hn) (I.hok.laid k hp ⟨hlen, out.toList, c, vals_of_intsI hout, hg⟩) (by rw [g]; exact I.bare) (fun _ z => nomatch z)
  have e : s' = { s with heap := s'.heap, gens := s'.gens, drawn := s'.drawn, toks := s'.toks } := by
    cases s'
    cases s
    cases o
    rfl
  rw [e]
  exact ⟨.ref p, _, J, rfl, q ns p pw hm hn⟩
theorem cr_or {f : Value} {r1 r2 : List V → Hp → VK → Prop} (h1 : CallR X f r1) (h2 : CallR X f r2) : CallR X f fun xs H Q => r1 xs H Q ∨ r2 xs H Q := by
  intro pins s σ H xs us Q I r h
  rcases h with h | h
  · exact h1 pins s σ H xs us Q I r h
  · exact h2 pins s σ H xs us Q I r h
end
section
variable [MF] [PWc] {X : Cx} {S : Sg} {H : Hp} {h : Hq}
theorem mem_insJ {p x : Int} : ∀ {l : List Int}, x ∈ insJ p l ↔ x = p ∨ x ∈ l
  | [] => by simp [insJ]
  | q :: r => by
    rw [insJ]
    split
    · simp
    · split
      · rename_i h
        subst h
        simp
      · rw [List.mem_cons, mem_insJ, List.mem_cons]
        constructor
        · rintro (h | h | h) <;> simp [h]
        · rintro (h | h | h) <;> simp [h]
theorem mem_sortJ {x : Int} : ∀ {l : List Int}, x ∈ sortJ l ↔ x ∈ l
  | [] => Iff.rfl
  | p :: l => by rw [sortJ, mem_insJ, mem_sortJ, List.mem_cons]
theorem insJ_pw {p : Int} : ∀ {l : List Int}, l.Pairwise (· < ·) → (insJ p l).Pairwise (· < ·)
  | [], _ => by simp [insJ]
  | q :: r, h => by
    obtain ⟨h1, h2⟩ := List.pairwise_cons.mp h
    rw [insJ]
    split
    · rename_i hp
      refine List.pairwise_cons.mpr ⟨fun x hx => ?_, h⟩
      rcases List.mem_cons.mp hx with rfl | hx
      · exact hp
      · have := h1 x hx
        omega
    · rename_i hp
      split
      · exact h
      · rename_i hne
        refine List.pairwise_cons.mpr ⟨fun x hx => ?_, insJ_pw h2⟩
        rcases mem_insJ.mp hx with rfl | hx
        · omega
        · exact h1 x hx
theorem sortJ_pw : ∀ l : List Int, (sortJ l).Pairwise (· < ·)
  | [] => .nil
  | p :: l => insJ_pw (sortJ_pw l)
theorem sortedJ_ext : ∀ {l m : List Int}, l.Pairwise (· < ·) → m.Pairwise (· < ·) → (∀ x, x ∈ l ↔ x ∈ m) → l = m
  | [], [], _, _, _ => rfl
  | [], y :: m, _, _, h => by have := (h y).mpr List.mem_cons_self; cases this
  | x :: l, [], _, _, h => by have := (h x).mp List.mem_cons_self; cases this
  | x :: l, y :: m, h1, h2, h => by
    obtain ⟨a1, a2⟩ := List.pairwise_cons.mp h1
    obtain ⟨b1, b2⟩ := List.pairwise_cons.mp h2
    have e : x = y := by
      rcases List.mem_cons.mp ((h x).mp List.mem_cons_self) with e | e
      · exact e
      · rcases List.mem_cons.mp ((h y).mpr List.mem_cons_self) with e' | e'
        · exact e'.symm
        · have q1 := b1 x e
          have q2 := a1 y e'
          omega
    subst e
    rw [sortedJ_ext a2 b2 fun z => ?_]
    constructor
    · intro hz
      rcases List.mem_cons.mp ((h z).mp (List.mem_cons_of_mem _ hz)) with rfl | q
      · have := a1 z hz
        omega
      · exact q
    · intro hz
      rcases List.mem_cons.mp ((h z).mpr (List.mem_cons_of_mem _ hz)) with rfl | q
      · have := b1 z hz
        omega
      · exact q
theorem few_ints {ms : List Int} (nd : ms.Nodup) (h : ∀ x ∈ ms, 0 ≤ x ∧ x < 60) : ms.length ≤ 60 := by
  have := nat_nodup_len (ms.map Int.toNat) (List.range 60) (List.pairwise_map.mpr (List.Pairwise.imp_of_mem (fun {a b} ha hb hab e => hab (by
    have := h a ha
    have := h b hb
    omega)) nd)) (fun x hx => by
    obtain ⟨y, hy, rfl⟩ := List.mem_map.mp hx
    have := h y hy
    exact List.mem_range.mpr (by omega))
  rw [List.length_map, List.length_range] at this
  exact this
theorem RVs.intsJ {K : PySem.W.Frag} {S : Sg} {H : Hp} : ∀ l : List Int, RVs K S H (l.map D.int) (l.map V.int)
  | [] => .nil
  | s :: l => .cons (by unfold RV; rfl) (RVs.intsJ l)
theorem sstI_ok {a : Vv} {v : V} {x z : D} {Q : VK} (r : RelH X.K S H h) (ra : RW X.K S H a v) (ea : rdV h a = some x) (hz : sstI x = some z) (dl : Dl X.K S H h z Q) :
    rSetOfI X.K X.w [v] H fun v2 H2 => rSortedI X.w [v2] H2 Q := by
  unfold sstI at hz
  split at hz
  · rename_i xs
    obtain ⟨ns, hns, hz⟩ := Option.bind_eq_some_iff.mp hz
    split at hz
    · rename_i hc
      cases hz
      obtain ⟨p, vs, rfl, t, q⟩ := ra.lst r ea
      have hw := q.ints hns
      subst hw
      have hsm : ∀ n ∈ ns, 0 ≤ n ∧ n < 60 := fun n hn => by
        have := List.all_eq_true.mp hc.2 n hn
        unfold smallI at this
        simp only [Bool.and_eq_true, decide_eq_true_eq] at this
        exact this
      refine ⟨p, ns, rfl, .inl (SqL.of t), hc.1, fun a0 n ha0 hm => ?_⟩
      obtain ⟨ms, m1, m2, m3⟩ := hm
      have hl := few_ints m1 fun x hx => hsm x ((m3 x).mp hx)
      have xn : Ext S H S (upd H a0 (SetIO X.w a0 (fun j => decide (j ∈ ns)) n)) := ext_new ha0
      have rn : RelH X.K S (upd H a0 (SetIO X.w a0 (fun j => decide (j ∈ ns)) n)) h := r.new ha0
      refine ⟨a0, _, n, rfl, upd_same, by omega, fun N p' pw hN hp' => ?_⟩
      have hNs : N = sortJ ns := sortedJ_ext pw (sortJ_pw ns) fun k => by rw [hN, mem_sortJ, decide_eq_true_iff]
      rw [hNs]
      have dl' : Dl X.K S (upd H a0 (SetIO X.w a0 (fun j => decide (j ∈ ns)) n)) h (.lst ((sortJ ns).map .int)) Q := fun S' w' H' x' r' rv' => dl S' w' H' (xn.trans x') r' rv'
      exact dl'.lst rn (RVs.intsJ _) p' hp'
    · cases hz
  · cases hz
theorem cnt_ok {K : PySem.W.Frag} {v w : V} {Q : VK} (q : rOp K countD v w H Q) : rCntI K v [w] H Q := by
  obtain ⟨S, h, a, b, p, q, z, r, ra, rb, ea, eb, hz, dl⟩ := q
  unfold countD at hz
  split at hz
  · rename_i xs k
    obtain ⟨ns, hns, rfl⟩ := Option.map_eq_some_iff.mp hz
    obtain ⟨p, vs, rfl, t, q⟩ := ra.lst r ea
    have hw := q.ints hns
    subst hw
    exact ⟨p, ns, k, rfl, by rw [rb.int r eb], SqL.of t, dl.int r⟩
  · cases hz
end
end Bk
namespace Bk
open PySem PySem.Spec PyProof.Rows L2
def MaskB (m : Nat) : Prop := m = 7 ∨ m = 31 ∨ m = 127 ∨ m = 511
def orbM (m : Nat) : Nat → Nat → List Nat
  | _, 0 => []
  | x, k + 1 => x :: orbM m ((x * 5 + 1) % (m + 1)) k
theorem orb_mem {m : Nat} : ∀ {k a j : Nat}, j ∈ orbM m (lcgN m a) k → ∃ b, b < a + k ∧ lcgN m b = j
  | 0, a, j, h => by cases h
  | k + 1, a, j, h => by
    rcases List.mem_cons.mp h with rfl | h
    · exact ⟨a, by omega, rfl⟩
    · obtain ⟨b, h1, h2⟩ := orb_mem (m := m) (k := k) (a := a + 1) h
      exact ⟨b, by omega, h2⟩
theorem orb_511 : ((List.range 512).all fun j => (orbM 511 0 512).contains j) = true := by decide +kernel
theorem rnd_511 : lcgN 511 512 = 0 := by decide +kernel
theorem lcgB_all {m : Nat} (hm : MaskB m) {j : Nat} (hj : j ≤ m) : ∃ b, b ≤ m ∧ lcgN m b = j := by
  rcases hm with e | e | e | e
  · exact lcg_all (.inl e) hj
  · exact lcg_all (.inr (.inl e)) hj
  · exact lcg_all (.inr (.inr e)) hj
  · subst e
    have q := List.all_eq_true.mp orb_511 j (List.mem_range.mpr (by omega))
    rw [List.contains_iff_mem] at q
    obtain ⟨b, h1, h2⟩ := orb_mem (m := 511) (a := 0) q
    exact ⟨b, by omega, h2⟩
theorem lcgB_round {m : Nat} (hm : MaskB m) : lcgN m (m + 1) = 0 := by
  rcases hm with e | e | e | e
  · exact lcg_round (.inl e)
  · exact lcg_round (.inr (.inl e))
  · exact lcg_round (.inr (.inr e))
  · subst e
    exact rnd_511
theorem lcgB_mod {m : Nat} (hm : MaskB m) : ∀ k, lcgN m (m + 1 + k) = lcgN m k
  | 0 => lcgB_round hm
  | k + 1 => by
    rw [show m + 1 + (k + 1) = (m + 1 + k) + 1 by omega, lcgN, lcgN, lcgB_mod hm k]
theorem lcgB_from {m : Nat} (hm : MaskB m) {i j : Nat} (hi : i ≤ m) (hj : j ≤ m) : ∃ k, k ≤ m ∧ lcgI m i k = j := by
  obtain ⟨a, ha, rfl⟩ := lcgB_all hm hi
  obtain ⟨b, hb, rfl⟩ := lcgB_all hm hj
  by_cases c : a ≤ b
  · refine ⟨b - a, by omega, ?_⟩
    rw [lcgN_add, show a + (b - a) = b by omega]
  · refine ⟨m + 1 + b - a, by omega, ?_⟩
    rw [lcgN_add, show a + (m + 1 + b - a) = m + 1 + b by omega, lcgB_mod hm]
theorem runB_meets {m : Nat} (hm : MaskB m) (h : Int) {j : Nat} (hj : j ≤ m) : ∃ n, n ≤ m + 12 ∧ L2.runI m (SetTable.bits h) n = j := by
  obtain ⟨k, hk, e⟩ := lcgB_from hm (runI_le m (SetTable.bits h) 12) hj
  refine ⟨12 + k, by omega, ?_⟩
  rw [runI_tail (bits_lt h)]
  exact e
theorem maskB_odd {m : Nat} (h : MaskB m) : m % 2 = 1 := by
  rcases h with rfl | rfl | rfl | rfl <;> rfl
theorem wayB_le {m : Nat} {h : Int} {k : Nat} : way m h k ≤ m := by
  have i0 : SetTable.bits h % (m + 1) ≤ m := Nat.le_of_lt_succ (Nat.mod_lt _ (Nat.succ_pos _))
  have e0 := (runEnd_bd i0).1
  have e1 := (runEnd_bd i0).2.1
  have q := nth_in (m := m) k (runAt m (SetTable.bits h % (m + 1)) (SetTable.bits h)) (by
    unfold runAt
    dsimp only
    omega)
  unfold way
  omega
structure TabB (t : SetTable) (hs : List Int) : Prop where
  ris : Ris t.place.toList
  dm : t.dummies = #[]
  sz : t.place.size = hs.length
  mok : MaskB t.mask
  bd : ∀ x ∈ t.place.toList, x ≤ t.mask
  reach : ∀ (i : Nat) (h : Int) (j : Nat), hs[i]? = some h → t.place.toList[i]? = some j → ∃ k, way t.mask h k = j ∧ ∀ k', k' < k → way t.mask h k' ∈ t.place.toList
theorem TabB.first {t : SetTable} {hs : List Int} (T : TabB t hs) (hl : hs.length ≤ t.mask) (h : Int) : ∃ K, K < 10 * SetTable.turns t.mask ∧ way t.mask h K ∉ t.place.toList ∧ ∀ k, k < K → way t.mask h k ∈ t.place.toList := by
  obtain ⟨j, hj, hn⟩ := st_missing t.place.toList (t.mask + 1) (by rw [Array.length_toList, T.sz]; omega)
  obtain ⟨n, hnm, e⟩ := runB_meets T.mok h (show j ≤ t.mask by omega)
  obtain ⟨k, hk, e2⟩ := run_nth t.mask (SetTable.bits h) n
  have ek : way t.mask h k = j := by
    unfold way
    rw [e2]
    exact e
  obtain ⟨K, h1, h2, h3⟩ := st_least (p := fun k => way t.mask h k ∉ t.place.toList) k (by rw [ek]; exact hn)
  refine ⟨K, ?_, h2, fun k' hk' => Classical.byContradiction fun c => h3 k' hk' c⟩
  unfold SetTable.turns
  omega
theorem TabB.before {t : SetTable} {hs : List Int} (T : TabB t hs) {h : Int} {K i j : Nat} (hK : way t.mask h K ∉ t.place.toList) (hi : hs[i]? = some h) (hj : t.place.toList[i]? = some j) : ∃ k, k < K ∧ way t.mask h k = j := by
  obtain ⟨k, e, hb⟩ := T.reach i h j hi hj
  refine ⟨k, Classical.byContradiction fun c => ?_, e⟩
  by_cases c2 : k = K
  · subst c2
    rw [e] at hK
    exact hK (List.mem_of_getElem? hj)
  · exact hK (hb K (by omega))
theorem TabB.put {t : SetTable} {hs : List Int} (T : TabB t hs) {h : Int} {K : Nat} (hK : way t.mask h K ∉ t.place.toList) (hb : ∀ k, k < K → way t.mask h k ∈ t.place.toList) :
    ∃ p, p = SetTable.below t.place (way t.mask h K) ∧ p ≤ hs.length ∧ t.put (way t.mask h K) = ((t.put (way t.mask h K)).1, p) ∧ TabB (t.put (way t.mask h K)).1 (hs.take p ++ h :: hs.drop p) ∧ (t.put (way t.mask h K)).1.mask = t.mask ∧ (t.put (way t.mask h K)).1.led = t.led ∧ (t.put (way t.mask h K)).1.fill = hs.length + 1 := by
  have jm : way t.mask h K ≤ t.mask := wayB_le
  generalize hj : way t.mask h K = j at hK jm ⊢
  have c1 := (below_cut T.ris j).1
  have ps : t.place.toList.length = hs.length := by rw [Array.length_toList, T.sz]
  have pl : SetTable.below t.place j ≤ t.place.toList.length := by rw [Array.length_toList]; exact c1
  have ph : SetTable.below t.place j ≤ hs.length := by rw [← ps]; exact pl
  have np : t.place[SetTable.below t.place j]? ≠ some j := fun e => hK (List.mem_of_getElem? (by rw [Array.getElem?_toList]; exact e))
  have pp := put_place t j
  have up : ∀ {x : Nat}, x ∈ t.place.toList → x ∈ (t.put j).1.place.toList := fun {x} hx => by
    rw [pp]
    exact mem_ins.2 (.inr hx)
  have sz1 : (t.put j).1.place.size = hs.length + 1 := by rw [← Array.length_toList, pp, len_ins _ pl, ps]
  refine ⟨_, rfl, ph, rfl, ⟨ris_insert T.ris np, put_dm T.dm j, ?_, T.mok, fun x hx => ?_, fun i h' j' h1 h2 => ?_⟩, rfl, rfl, ?_⟩
  · rw [len_ins _ ph, sz1]
  · rw [pp] at hx
    rcases mem_ins.1 hx with rfl | hx
    · exact jm
    · exact T.bd x hx
  · rw [tins_get hs ph] at h1
    rw [pp, tins_get _ pl] at h2
    show ∃ k, way t.mask h' k = j' ∧ ∀ k', k' < k → way t.mask h' k' ∈ (t.put j).1.place.toList
    have go : ∀ {i : Nat}, hs[i]? = some h' → t.place.toList[i]? = some j' → ∃ k, way t.mask h' k = j' ∧ ∀ k', k' < k → way t.mask h' k' ∈ (t.put j).1.place.toList := fun {i} h1 h2 => by
      obtain ⟨k, e, z⟩ := T.reach i h' j' h1 h2
      exact ⟨k, e, fun k' hk' => up (z k' hk')⟩
    by_cases c : i < SetTable.below t.place j
    · rw [if_pos c] at h1 h2
      exact go h1 h2
    · rw [if_neg c] at h1 h2
      by_cases d : i = SetTable.below t.place j
      · rw [if_pos d] at h1 h2
        cases h1
        cases h2
        exact ⟨K, hj, fun k' hk' => up (hb k' hk')⟩
      · rw [if_neg d] at h1 h2
        exact go h1 h2
  · unfold SetTable.fill
    rw [sz1, put_dm T.dm j]
    rfl
theorem freeB_find {m : Nat} (hm : MaskB m) (owner : Array (Option Nat)) (h : Int) {j : Nat} (hj : j ≤ m) (hf : oAt owner j = none) :
    ∃ K, SetTable.layClean.free m owner (SetTable.turns m) (SetTable.bits h % (m + 1)) (SetTable.bits h) = some (way m h K) ∧ oAt owner (way m h K) = none ∧ ∀ k, k < K → oAt owner (way m h k) ≠ none := by
  obtain ⟨n, hn, e⟩ := runB_meets hm h hj
  have ew : way m h (off m (SetTable.bits h % (m + 1)) (SetTable.bits h) n) = j := by
    unfold way
    rw [nth_off, itL_run]
    exact e
  obtain ⟨K, k1, k2, k3⟩ := st_least (p := fun k => oAt owner (way m h k) = none) (off m (SetTable.bits h % (m + 1)) (SetTable.bits h) n) (by rw [ew]; exact hf)
  refine ⟨K, free_spec m owner (SetTable.turns m) n _ _ K (by unfold SetTable.turns; omega) k1 (fun k hk => ?_) ?_, k2, k3⟩
  · have q := k3 k hk
    unfold way at q
    cases z : oAt owner (nth m (runAt m (SetTable.bits h % (m + 1)) (SetTable.bits h)) k).j with
    | none => exact absurd z q
    | some _ => rfl
  · have q := k2
    unfold way at q
    rw [q]
    rfl
theorem ownB_step {m : Nat} (hm : MaskB m) {done : List Int} {owner : Array (Option Nat)} (W : Own m done owner) (hl : done.length ≤ m) (h : Int) :
    ∃ j, SetTable.layClean.free m owner (SetTable.turns m) (SetTable.bits h % (m + 1)) (SetTable.bits h) = some j ∧ Own m (done ++ [h]) (owner.setIfInBounds j (some done.length)) := by
  obtain ⟨ps, hps, hin⟩ := W.ps
  obtain ⟨j0, h0, hn0⟩ := st_missing ps (m + 1) (by omega)
  have hj0 : oAt owner j0 = none := Classical.byContradiction fun c => hn0 (hin j0 (by omega) c)
  obtain ⟨K, e1, e2, e3⟩ := freeB_find hm owner h (show j0 ≤ m by omega) hj0
  have jm : way m h K ≤ m := wayB_le
  generalize hw : way m h K = j at e1 e2 jm
  have js : j < owner.size := by rw [W.sz]; omega
  have self := oAt_set_self (some done.length) js
  have mono : ∀ {i : Nat}, oAt owner i ≠ none → oAt (owner.setIfInBounds j (some done.length)) i ≠ none := fun {i} hi => by
    by_cases c : i = j
    · subst c
      rw [self]
      exact nofun
    · rw [oAt_set_ne _ c]
      exact hi
  refine ⟨j, e1, by rw [Array.size_setIfInBounds]; exact W.sz, fun i k hi e => ?_, fun k hk => ?_, j :: ps, by simp [hps], fun i hi e => ?_⟩
  · by_cases c : i = j
    · subst c
      rw [self] at e
      cases e
      exact ⟨h, K, by simp, hw, fun k' hk' => mono (e3 k' hk')⟩
    · rw [oAt_set_ne _ c] at e
      obtain ⟨h', K', a1, a2, a3⟩ := W.at_ i k hi e
      exact ⟨h', K', by rw [List.getElem?_append_left (List.getElem?_eq_some_iff.mp a1).1]; exact a1, a2, fun k' hk' => mono (a3 k' hk')⟩
  · rw [List.length_append, List.length_singleton] at hk
    by_cases c : k < done.length
    · obtain ⟨i, hi, e⟩ := W.all k c
      refine ⟨i, hi, ?_⟩
      rw [oAt_set_ne _ (fun z => by rw [z, e2] at e; cases e)]
      exact e
    · have ek : k = done.length := by omega
      subst ek
      exact ⟨j, jm, self⟩
  · by_cases c : i = j
    · exact List.mem_cons.mpr (.inl c)
    · rw [oAt_set_ne _ c] at e
      exact List.mem_cons_of_mem _ (hin i hi e)
theorem foldB_ok {m : Nat} (hm : MaskB m) : ∀ (rest done : List Int) (owner : Array (Option Nat)), Own m done owner → done.length + rest.length ≤ m →
    ∃ owner', rest.foldl (stepF m) (some (owner, done.length)) = some (owner', (done ++ rest).length) ∧ Own m (done ++ rest) owner'
  | [], done, owner, W, _ => ⟨owner, by simp, by simpa using W⟩
  | h :: rest, done, owner, W, hl => by
    rw [List.length_cons] at hl
    obtain ⟨j, e, W'⟩ := ownB_step hm W (by omega) h
    obtain ⟨owner', f, W2⟩ := foldB_ok hm rest (done ++ [h]) _ W' (by simp; omega)
    refine ⟨owner', ?_, by simpa using W2⟩
    rw [List.foldl_cons, stepF_some e]
    have e2 : (done ++ [h]).length = done.length + 1 := by simp
    rw [e2] at f
    simpa using f
theorem relaidB {t : SetTable} {hs : Array Int} {wanted M : Nat} (hw : SetTable.sizeAbove wanted - 1 = M) (hM : MaskB M) (hn : hs.size ≤ M) :
    ∃ t' order, t.relaid hs wanted = some (t', order) ∧ order.toList.Perm (List.range hs.size) ∧ TabB t' (order.toList.map fun i => hs.getD i 0) ∧ t'.mask = M ∧ t'.led = t.led := by
  obtain ⟨owner, e, W⟩ : ∃ owner, SetTable.layClean M hs = some owner ∧ Own M hs.toList owner := by
    obtain ⟨owner, f, W⟩ := foldB_ok hM hs.toList [] _ (Own.init M) (by rw [Array.length_toList]; simpa using hn)
    rw [List.nil_append] at W
    refine ⟨owner, ?_, W⟩
    have f : hs.toList.foldl (stepF M) (some (Array.replicate (M + 1) none, 0)) = some (owner, ([] ++ hs.toList).length) := f
    rw [layClean_eq, f]
    rfl
  have hr : t.relaid hs wanted = some (tabOf t M owner, ((liveOf M owner).map (·.2)).toArray) := by
    rw [relaid_eq, hw, e]
    rfl
  have ris := ris_live (fun j => owner.getD j none) (List.range (M + 1)) (by
    unfold Ris
    first | exact List.pairwise_lt_range | exact List.pairwise_lt_range _)
  have r1 : Ris ((liveOf M owner).map (·.1)) := ris.1
  have r2 : ∀ x ∈ (liveOf M owner).map (·.1), x ∈ List.range (M + 1) := ris.2
  have nd : ((liveOf M owner).map (·.1)).Nodup := r1.imp fun h => Nat.ne_of_lt h
  have hsl : hs.toList.length = hs.size := Array.length_toList
  have hlen : (liveOf M owner).length = hs.size := by
    obtain ⟨ps, p1, p2⟩ := W.ps
    have a := nat_nodup_len ((liveOf M owner).map (·.1)) ps nd fun x hx => by
      obtain ⟨⟨y, k⟩, hq, rfl⟩ := List.mem_map.mp hx
      obtain ⟨b1, b2⟩ := (mem_live W.sz).1 hq
      exact p2 y b1 (by rw [b2]; exact nofun)
    have b := nat_nodup_len (List.range hs.size) ((liveOf M owner).map (·.2)) List.nodup_range fun k hk => by
      obtain ⟨j, b1, b2⟩ := W.all k (by rw [hsl]; exact List.mem_range.mp hk)
      exact List.mem_map.mpr ⟨(j, k), (mem_live W.sz).2 ⟨b1, b2⟩, rfl⟩
    rw [List.length_map, p1, hsl] at a
    rw [List.length_map, List.length_range] at b
    omega
  refine ⟨_, _, hr, ?_, ⟨r1, rfl, ?_, hM, fun x hx => ?_, fun i h j h1 h2 => ?_⟩, rfl, rfl⟩
  · refine perm_range hs.size _ (by simpa using hlen) fun k hk => ?_
    obtain ⟨j, b1, b2⟩ := W.all k (by rw [hsl]; exact hk)
    exact List.mem_map.mpr ⟨(j, k), (mem_live W.sz).2 ⟨b1, b2⟩, rfl⟩
  · unfold tabOf
    simp
  · have := List.mem_range.mp (r2 x hx)
    show x ≤ M
    omega
  · have h1' : (((liveOf M owner).map (·.2)).map fun i => hs.getD i 0)[i]? = some h := h1
    have h2' : ((liveOf M owner).map (·.1))[i]? = some j := h2
    rw [List.getElem?_map, List.getElem?_map] at h1'
    rw [List.getElem?_map] at h2'
    cases hq : (liveOf M owner)[i]? with
    | none =>
      rw [hq] at h2'
      cases h2'
    | some q =>
      obtain ⟨y, k⟩ := q
      rw [hq] at h1' h2'
      have ej : y = j := Option.some.inj h2'
      have eh : hs.getD k 0 = h := Option.some.inj h1'
      subst ej
      obtain ⟨b1, b2⟩ := (mem_live W.sz).1 (List.mem_of_getElem? hq)
      obtain ⟨h0, K, a1, a2, a3⟩ := W.at_ y k b1 b2
      have e0 : hs.getD k 0 = h0 := by rw [Array.getD_eq_getD_getElem?, ← Array.getElem?_toList, a1]; rfl
      obtain rfl : h0 = h := e0.symm.trans eh
      refine ⟨K, a2, fun k' hk' => ?_⟩
      show way M h0 k' ∈ (liveOf M owner).map (·.1)
      cases z : oAt owner (way M h0 k') with
      | none => exact absurd z (a3 k' hk')
      | some k2 => exact List.mem_map.mpr ⟨(way M h0 k', k2), (mem_live W.sz).2 ⟨wayB_le, z⟩, rfl⟩
theorem sizeB_5 : SetTable.sizeAbove (SetTable.grown 5) = 32 := by decide +kernel
theorem sizeB_19 : SetTable.sizeAbove (SetTable.grown 19) = 128 := by decide +kernel
theorem sizeB_77 : SetTable.sizeAbove (SetTable.grown 77) = 512 := by decide +kernel
end Bk
namespace Bk
open PySem PySem.Spec PyProof.Rows L2
def HashS (P : Program) (w : World) (n : Nat) (s : Shared) (v : Value) : Prop := ∀ (A : Around) (E : Value → Shared → Prop) (Q : Bool → Shared → Prop), (∀ b, Q b s) → wpAny (model P w) A (hashByValue n v) Q E s
def ClsS (P : Program) (w : World) (n : Nat) (s : Shared) (v : Value) : Prop := ∀ (A : Around) (E : Value → Shared → Prop) (Q : Bool → Shared → Prop), Q false s → wpAny (model P w) A (ofAClassStatement n v) Q E s
section
variable {P : Program} {w : World}
theorem HashS.tuple {n : Nat} {s : Shared} {a : Addr} {o : Obj} {vs : Array Value} {m : Nat} (ho : s.heap.get? a = some o) (hc : o.cls = .type "tuple") (hd : o.data = .seq vs m) (hq : ∀ v ∈ vs.toList, HashS P w n s v) : HashS P w (n + 1) s (.ref a) := fun A E Q h => by
  have hT : s.TypeIs (.ref a) "tuple" := ⟨o, ho, hc⟩
  unfold hashByValue
  refine wpAny_bind (wpAny_specialOf hT F.slot_tuple_hash.lookup ?_)
  show wpAny _ _ (seqItems? (.ref a) >>= _) _ _ s
  refine wpAny_bind (wpAny_seqItems ho hd ?_)
  refine wpAny_bind ?_
  show wpAny _ _ (forIn vs _ _) _ _ s
  rw [← Array.forIn_toList]
  refine wpAny_forIn_list _ (fun rest r s' => r.1 = none ∧ s' = s ∧ ∀ v ∈ rest, HashS P w n s v) _ ?_ ?_ _ _ ⟨rfl, rfl, hq⟩
  · rintro v rest r s' ⟨hr, rfl, hall⟩
    refine wpAny_bind (hall v List.mem_cons_self _ _ _ fun b => ?_)
    cases b with
    | true =>
      simp only [Bool.not_true, Bool.false_eq_true, if_false]
      exact wpAny_pure ⟨rfl, rfl, fun u hu' => hall u (List.mem_cons_of_mem _ hu')⟩
    | false =>
      simp only [Bool.not_false, if_true]
      exact wpAny_pure (wpAny_pure (h false))
  · rintro ⟨r1, r2⟩ s' ⟨hr, rfl, _⟩
    simp only at hr
    subst hr
    exact wpAny_pure (h true)
theorem ClsS.tuple {n : Nat} {s : Shared} {a : Addr} {o : Obj} {vs : Array Value} {m : Nat} (ho : s.heap.get? a = some o) (hc : o.cls = .type "tuple") (hd : o.data = .seq vs m) (hq : ∀ v ∈ vs.toList, ClsS P w n s v) : ClsS P w (n + 1) s (.ref a) := fun A E Q h => by
  have hT : s.TypeIs (.ref a) "tuple" := ⟨o, ho, hc⟩
  unfold ofAClassStatement
  refine wpAny_bind (wpAny_typeOf hT ?_)
  dsimp only
  have e : (("tuple" : String) == "tuple") = true := by decide
  simp only [e, if_true, Bool.not_true, Bool.false_eq_true, if_false]
  try refine wpAny_bind (wpAny_pure ?_)
  try simp only [Bool.not_true, Bool.false_eq_true, if_false]
  show wpAny _ _ (seqItems? (.ref a) >>= _) _ _ s
  refine wpAny_bind (wpAny_seqItems ho hd ?_)
  dsimp only
  refine wpAny_bind ?_
  show wpAny _ _ (forIn vs _ _) _ _ s
  rw [← Array.forIn_toList]
  refine wpAny_forIn_list _ (fun rest r s' => r.1 = none ∧ s' = s ∧ ∀ v ∈ rest, ClsS P w n s v) _ ?_ ?_ _ _ ⟨rfl, rfl, hq⟩
  · rintro v rest r s' ⟨hr, rfl, hall⟩
    refine wpAny_bind (hall v List.mem_cons_self _ _ _ ?_)
    simp only [Bool.false_eq_true, if_false]
    exact wpAny_pure ⟨rfl, rfl, fun u hu' => hall u (List.mem_cons_of_mem _ hu')⟩
  · rintro ⟨r1, r2⟩ s' ⟨hr, rfl, _⟩
    simp only at hr
    subst hr
    exact wpAny_pure h
mutual
theorem hash_key : ∀ (k : NestedKey) (v : Value) (n : Nat) (s : Shared), NestedIs s.heap k v → HashS P w n s v
  | .none, v, n, s, x => fun A E Q h => by
    cases x
    cases n <;> exact wpAny_pure (h _)
  | .num i, v, n, s, x => fun A E Q h => by
    cases x <;> cases n <;> exact wpAny_pure (h _)
  | .text y, v, n, s, x => fun A E Q h => by
    cases x
    cases n <;> exact wpAny_pure (h _)
  | .tup ks, v, n, s, x => by
    cases x with
    | tup hg hc hd hk =>
      cases n with
      | zero => exact fun A E Q h => wpAny_pure (h _)
      | succ n => exact .tuple hg hc hd (hash_keys ks _ n s hk)
theorem hash_keys : ∀ (ks : List NestedKey) (vs : List Value) (n : Nat) (s : Shared), NestedAll s.heap ks vs → ∀ v ∈ vs, HashS P w n s v
  | [], _, n, s, x, v, hv => by cases x; cases hv
  | k :: ks, _, n, s, x, v, hv => by
    cases x with
    | cons x1 x2 =>
      rcases List.mem_cons.mp hv with e | hv
      · rw [e]; exact hash_key k _ n s x1
      · exact hash_keys ks _ n s x2 v hv
end
mutual
theorem cls_key : ∀ (k : NestedKey) (v : Value) (n : Nat) (s : Shared), NestedIs s.heap k v → k.depth ≤ n → ClsS P w n s v
  | .none, v, n, s, x, _ => fun A E Q h => by
    cases x
    cases n <;> exact wpAny_pure h
  | .num i, v, n, s, x, _ => fun A E Q h => by
    cases x <;> cases n <;> exact wpAny_pure h
  | .text y, v, n, s, x, _ => fun A E Q h => by
    cases x
    cases n <;> exact wpAny_pure h
  | .tup ks, v, n, s, x, hn => by
    cases x with
    | tup hg hc hd hk =>
      simp only [NestedKey.depth] at hn
      cases n with
      | zero => omega
      | succ n => exact .tuple hg hc hd (cls_keys ks _ n s hk (by omega))
theorem cls_keys : ∀ (ks : List NestedKey) (vs : List Value) (n : Nat) (s : Shared), NestedAll s.heap ks vs → NestedKey.depthAll ks ≤ n → ∀ v ∈ vs, ClsS P w n s v
  | [], _, n, s, x, _, v, hv => by cases x; cases hv
  | k :: ks, _, n, s, x, hn, v, hv => by
    cases x with
    | cons x1 x2 =>
      simp only [NestedKey.depthAll] at hn
      rcases List.mem_cons.mp hv with e | hv
      · rw [e]; exact cls_key k _ n s x1 (by omega)
      · exact cls_keys ks _ n s x2 (by omega) v hv
end
abbrev IsN (P : Program) (w : World) (h : Heap) (k : NestedKey) (a : Addr) : Prop := (nestedKind P w).is h k a
abbrev nhash (w : World) (k : NestedKey) : Int := k.hash w
section
variable {A : Around} {E : Value → Shared → Prop} {s : Shared}
theorem seen_key {k : NestedKey} {b : Addr} {Q : Bool → Shared → Prop} (hk : IsN P w s.heap k b) {ys : List Value} (hy : ∀ y ∈ ys, ∃ k' c, y = Value.ref c ∧ IsN P w s.heap k' c) (h : Q false s) :
    wpAny (model P w) A (searchCouldBeSeen (.ref b) ys) Q E s := by
  unfold searchCouldBeSeen
  refine wpAny_bind ?_
  refine wpAny_forIn_list _ (fun rest r s' => r.1 = none ∧ s' = s ∧ ∀ y ∈ rest, ∃ k' c, y = Value.ref c ∧ IsN P w s.heap k' c) _ ?_ ?_ _ _ ⟨rfl, rfl, hy⟩
  · rintro v rest r s' ⟨hr, rfl, hall⟩
    obtain ⟨k', c, rfl, hc⟩ := hall v List.mem_cons_self
    have rest' : ∀ y ∈ rest, ∃ k' c, y = Value.ref c ∧ IsN P w s'.heap k' c := fun u hu' => hall u (List.mem_cons_of_mem _ hu')
    dsimp only
    by_cases hv : (b == c || (carriedByValue (.ref b) && carriedByValue (.ref c))) = true
    · exact wp_if_pos hv (wpAny_pure ⟨rfl, rfl, rest'⟩)
    · refine wp_if_neg hv (wpAny_bind ((nestedKind P w).quiet hk ?_))
      simp only [Bool.not_true, Bool.false_eq_true, if_false]
      refine wpAny_bind ((nestedKind P w).quiet hc ?_)
      simp only [Bool.not_true, Bool.false_eq_true, if_false]
      refine wpAny_bind (cls_key k _ 8 s' hk.1 hk.2 _ _ _ ?_)
      simp only [Bool.false_eq_true, if_false]
      refine wpAny_bind (cls_key k' _ 8 s' hc.1 hc.2 _ _ _ ?_)
      simp only [Bool.false_eq_true, if_false]
      exact wpAny_pure ⟨rfl, rfl, rest'⟩
  · rintro ⟨r1, r2⟩ s' ⟨hr, rfl, _⟩
    simp only at hr
    subst hr
    exact wpAny_pure h
end
abbrev EnN := Addr × NestedKey
def rowsN (w : World) (L : List EnN) : List (Int × Value) := L.map fun p => (nhash w p.2, Value.ref p.1)
structure SetNR (P : Program) (w : World) (h : Heap) (a : Addr) (L : List EnN) (es : Array (Int × Value)) (ep : Nat) (t : SetTable) : Prop where
  ob : ∃ o, h.get? a = some o ∧ o.ExactSet ∧ o.data = .set es ep t
  rows : es.toList = rowsN w L
  tab : TabB t (L.map fun p => nhash w p.2)
  nd : (L.map (·.2)).Nodup
  tup : ∀ p ∈ L, IsN P w h p.2 p.1
  led : w.params.followText "set-order" = true ∨ t.led = true
  room : L.length * 5 < t.mask * 3
  few : L.length ≤ 300
theorem rowsN_len {es : Array (Int × Value)} {L : List EnN} (h : es.toList = rowsN w L) : es.size = L.length := by
  have := congrArg List.length h
  unfold rowsN at this
  rw [Array.length_toList, List.length_map] at this
  exact this
theorem rowsN_get {es : Array (Int × Value)} {L : List EnN} (h : es.toList = rowsN w L) {i : Nat} {p : EnN} (hp : L[i]? = some p) : es[i]? = some (nhash w p.2, Value.ref p.1) := by
  rw [← Array.getElem?_toList, h]
  unfold rowsN
  rw [List.getElem?_map, hp]
  rfl
section
variable {A : Around} {E : Value → Shared → Prop} {s : Shared} {a : Addr} {L : List EnN} {es : Array (Int × Value)} {ep : Nat} {t : SetTable}
theorem SetNR.size (R : SetNR P w s.heap a L es ep t) : es.size = L.length := rowsN_len R.rows
theorem SetNR.fits (R : SetNR P w s.heap a L es ep t) : t.fits es.size = true := by
  have h1 := R.tab.sz
  rw [List.length_map] at h1
  have h2 := R.size
  have h3 := R.room
  unfold SetTable.fits SetTable.fill
  rw [R.tab.dm, Bool.and_eq_true, beq_iff_eq, decide_eq_true_eq]
  show t.place.size = es.size ∧ t.place.size + 0 ≤ t.mask
  omega
theorem gwB {m : Nat} (h : MaskB m) {t : SetTable} (e : t.mask = m) : ¬ t.gaveWay = true := by
  unfold SetTable.gaveWay
  rw [e, maskB_odd h]
  decide
theorem nth_dm (m : Nat) : ∀ (n : Nat) (p : SetTable.Probe), p.dummy = none → (nth m p n).dummy = none
  | 0, p, h => h
  | n + 1, p, h => nth_dm m n (adv m p) (by
    unfold adv
    split <;> exact h)
theorem look_from (R : SetNR P w s.heap a L es ep t) {x : Addr} {k : NestedKey} (hx : IsN P w s.heap k x) (hu : A.units + 8 < cLine) {K : Nat} (hKf : K < 10 * SetTable.turns t.mask)
    (hK : way t.mask (nhash w k) K ∉ t.place.toList) (hKb : ∀ c, c < K → way t.mask (nhash w k) c ∈ t.place.toList) {Q : SetFound → Shared → Prop}
    (hin : k ∈ L.map (·.2) → Q (.there none) s) (hout : k ∉ L.map (·.2) → Q (.free (way t.mask (nhash w k) K) false) s) :
    ∀ (f c : Nat) (stand : Option SetTable.Probe), stand.getD (t.probeStart (nhash w k)) = nth t.mask (runAt t.mask (SetTable.bits (nhash w k) % (t.mask + 1)) (SetTable.bits (nhash w k))) c → c ≤ K → K - c < f →
      (∀ (i : Nat) p, L[i]? = some p → p.2 = k → ∃ c', c ≤ c' ∧ c' < K ∧ t.place.toList[i]? = some (way t.mask (nhash w k) c')) →
      wpAny (model P w) A (setSearchFrom a (.ref x) (nhash w k) true f stand) Q E s
  | 0, c, stand, _, _, hf, _ => absurd hf (Nat.not_lt_zero _)
  | f + 1, c, stand, hst, hc, hf, hre => by
    obtain ⟨o, ho, hex, hd⟩ := R.ob
    rw [setSearchFrom_succ]
    refine wpAny_bind (wpAny_setState_of ho hd R.fits ?_)
    dsimp only
    refine wp_if_neg (gwB R.tab.mok rfl) ?_
    try refine wpAny_bind (wpAny_pure ?_)
    generalize hH : nhash w k = H at *
    generalize hp0 : runAt t.mask (SetTable.bits H % (t.mask + 1)) (SetTable.bits H) = p0 at *
    have hwy : ∀ q, (nth t.mask p0 q).j = way t.mask H q := fun q => by rw [← hp0]
    have sh : ∀ q, nth t.mask (nth t.mask p0 c) q = nth t.mask p0 (c + q) := fun q => (nth_add t.mask c _ q).symm
    have e1 : ∀ q, (nth t.mask (nth t.mask p0 c) q).j = way t.mask H (c + q) := fun q => by rw [sh, hwy]
    have eK : c + (K - c) = K := by omega
    have spec := go_spec t R.tab.ris R.tab.dm (fun i => (es[i]?.map (·.1)).getD 0) H (10 * SetTable.turns t.mask) (K - c) (nth t.mask p0 c) (nth_dm _ _ _ (by rw [← hp0]; rfl)) (by omega)
      (fun q hq => by rw [e1]; exact hKb (c + q) (by omega)) (by rw [e1, eK]; exact hK)
    have hashAt : ∀ (i : Nat) p, L[i]? = some p → (fun i => (es[i]?.map (·.1)).getD 0) i = nhash w p.2 := fun i p hp => by
      show (es[i]?.map (·.1)).getD 0 = _
      rw [rowsN_get R.rows hp]
      rfl
    rcases spec with ⟨q, i, hq, hi, hh, hno, hpr⟩ | ⟨hno, hpr⟩
    · have hpr' : t.probe (fun i => (es[i]?.map (·.1)).getD 0) H (stand.getD (t.probeStart H)) = some (.candidate (way t.mask H (c + q)) i (nth t.mask p0 (c + (q + 1)))) := by
        rw [hst, ← e1, ← sh]
        exact hpr
      rw [hpr']
      dsimp only
      rw [e1] at hi
      have hil : i < L.length := by
        have h1 : i < t.place.toList.length := (List.getElem?_eq_some_iff.mp hi).1
        have h2 := R.tab.sz
        rw [List.length_map] at h2
        rw [Array.length_toList] at h1
        omega
      obtain ⟨p, hp⟩ : ∃ p, L[i]? = some p := ⟨_, List.getElem?_eq_getElem hil⟩
      have hmem : p ∈ L := List.mem_of_getElem? hp
      have hpt := R.tup p hmem
      have hsl : t.slot (way t.mask H (c + q)) = .live i := slot_live R.tab.ris hi
      have rest : wpAny (model P w) A (searchRest a (.ref x) H true f es t (way t.mask H (c + q)) i (nth t.mask p0 (c + (q + 1)))) Q E s := by
        unfold searchRest
        rw [rowsN_get R.rows hp]
        dsimp only
        refine wpAny_bind (wpAny_holding ((nestedKind P w).eqBool (by exact hu) hpt hx ?_))
        refine wpAny_bind (wpAny_setState_of ho hd R.fits ?_)
        dsimp only
        by_cases hkk : p.2 = k
        · refine wp_if_pos (by simp [hkk]) ?_
          exact wpAny_pure (hin (List.mem_map.mpr ⟨p, hmem, hkk⟩))
        · refine wp_if_neg (by simp [hkk]) ?_
          try refine wpAny_bind (wpAny_pure ?_)
          rw [sameMem]
          dsimp only
          simp only [if_true, hsl, rowsN_get R.rows hp]
          refine wpAny_bind (wpAny_isSame_ref_self (wpAny_bind (wpAny_pure ?_)))
          simp only [if_true]
          refine wp_if_neg (by simp [hkk]) ?_
          subst hH
          refine look_from R hx hu hKf hK hKb hin hout f (c + (q + 1)) _ (by rw [hp0]; rfl) (by omega) (by omega) fun i0 q0 h0 hk0 => ?_
          obtain ⟨c', a1, a2, a3⟩ := hre i0 q0 h0 hk0
          refine ⟨c', ?_, a2, a3⟩
          have n1 : ¬ c' < c + q := fun z => hno (c' - c) i0 (by omega) (by rw [e1, show c + (c' - c) = c' by omega]; exact a3) ((hashAt i0 q0 h0).trans (congrArg (nhash w) hk0))
          have n2 : c' ≠ c + q := fun z => by
            rw [z] at a3
            have s0 := slot_live R.tab.ris a3
            rw [hsl] at s0
            injection s0 with s0
            rw [← s0, hp] at h0
            exact hkk ((congrArg Prod.snd (Option.some.inj h0)).trans hk0)
          omega
      by_cases hl : t.led = true
      · refine wp_if_neg (by simp [hl]) ?_
        try refine wpAny_bind (wpAny_pure ?_)
        exact rest
      · refine wp_if_pos (by simp [hl]) ?_
        refine wpAny_bind (seen_key hx (fun y hy => ?_) ?_)
        · obtain ⟨e, he, ee⟩ := List.mem_map.mp hy
          have he1 : e ∈ es ∧ e.1 = H := by simpa using he
          have he2 : e ∈ es.toList := by simpa using he1.1
          rw [R.rows] at he2
          obtain ⟨p2, hp2, e2⟩ := List.mem_map.mp he2
          exact ⟨p2.2, p2.1, by rw [← ee, ← e2], R.tup p2 hp2⟩
        · refine wp_if_neg (by decide) ?_
          try refine wpAny_bind (wpAny_pure ?_)
          exact rest
    · have hpr' : t.probe (fun i => (es[i]?.map (·.1)).getD 0) H (stand.getD (t.probeStart H)) = some (.empty (way t.mask H K) none) := by
        have e2 : way t.mask H K = (nth t.mask (nth t.mask p0 c) (K - c)).j := by rw [e1, eK]
        rw [hst, e2]
        exact hpr
      rw [hpr']
      dsimp only
      refine wpAny_pure (hout fun hm => ?_)
      obtain ⟨q0, h0, hk0⟩ := List.mem_map.mp hm
      obtain ⟨i0, h00⟩ := List.getElem?_of_mem h0
      obtain ⟨c', a1, a2, a3⟩ := hre i0 q0 h00 hk0
      exact hno (c' - c) i0 (by omega) (by rw [e1, show c + (c' - c) = c' by omega]; exact a3) (((hashAt i0 q0 h00).trans (congrArg (nhash w) hk0)).trans hH)
theorem look_at (R : SetNR P w s.heap a L es ep t) {x : Addr} {k : NestedKey} (hx : IsN P w s.heap k x) (hu : A.units + 8 < cLine) {Q : SetFound → Shared → Prop}
    (hin : k ∈ L.map (·.2) → Q (.there none) s)
    (hout : ∀ K, k ∉ L.map (·.2) → way t.mask (nhash w k) K ∉ t.place.toList → (∀ c, c < K → way t.mask (nhash w k) c ∈ t.place.toList) → Q (.free (way t.mask (nhash w k) K) false) s) :
    wpAny (model P w) A (setSearch a (.ref x) (nhash w k) true) Q E s := by
  have hroom := R.room
  obtain ⟨K, hKf, hK, hKb⟩ := R.tab.first (by rw [List.length_map]; omega) (nhash w k)
  have big : K < 100000 := by
    have : 10 * SetTable.turns t.mask ≤ 5260 := by
      unfold SetTable.turns
      rcases R.tab.mok with e | e | e | e <;> omega
    omega
  unfold setSearch
  refine look_from R hx hu hKf hK hKb hin (fun hn => hout K hn hK hKb) 100000 0 none rfl (Nat.zero_le _) (by omega) fun i p hp hk => ?_
  have hi : (L.map fun p => nhash w p.2)[i]? = some (nhash w k) := by rw [List.getElem?_map, hp, ← hk]; rfl
  have hil : i < t.place.toList.length := by
    have h1 : i < L.length := (List.getElem?_eq_some_iff.mp hp).1
    have h2 := R.tab.sz
    rw [List.length_map] at h2
    rw [Array.length_toList]
    omega
  have hj := List.getElem?_eq_getElem hil
  obtain ⟨c, hc, e⟩ := R.tab.before hK hi hj
  exact ⟨c, Nat.zero_le _, hc, by rw [hj, e]⟩
theorem isN_same {h h' : Heap} {k : NestedKey} {a b : Addr} {o : Obj} {es : Array (Int × Value)} {ep : Nat} {t : SetTable} (hb : IsN P w h k b) (ho : h.get? a = some o) (hd : o.data = .set es ep t) (hs : Heap.SameBut a h h') : IsN P w h' k b :=
  ⟨NestedIs.at (fun b ob vs n hb hc => by
    refine (hs.2 b fun e => ?_).trans hb
    subst e
    rw [ho] at hb
    cases hb
    rw [hd] at hc
    cases hc) k _ hb.1, hb.2⟩
theorem rowsN_put (L : List EnN) (p : Nat) (x : Addr) (k : NestedKey) : rowsN w (L.take p ++ (x, k) :: L.drop p) = (rowsN w L).take p ++ (nhash w k, Value.ref x) :: (rowsN w L).drop p := by
  unfold rowsN
  rw [List.map_append, List.map_cons, List.map_take, List.map_drop]
theorem orderN (L : List EnN) (es : Array (Int × Value)) (order : Array Nat) (hr : es.toList = rowsN w L) (hp : order.toList.Perm (List.range L.length)) :
    ∃ L2, (order.filterMap (es[·]?)).toList = rowsN w L2 ∧ L2.Perm L ∧ (L2.map fun p => nhash w p.2) = order.toList.map fun i => (es.map (·.1)).getD i 0 := by
  have hsz : es.size = L.length := rowsN_len hr
  have key : ∀ l : List Nat, (∀ i ∈ l, i < L.length) → ∃ L2 : List EnN, l.filterMap (fun i => es[i]?) = rowsN w L2 ∧ L2 = l.filterMap (fun i => L[i]?) ∧ (L2.map fun p => nhash w p.2) = l.map fun i => (es.map (·.1)).getD i 0 := by
    intro l
    induction l with
    | nil => intro _; exact ⟨[], rfl, rfl, rfl⟩
    | cons i l ih =>
      intro hl
      have hi := hl i List.mem_cons_self
      obtain ⟨L2, e1, e2, e3⟩ := ih fun j hj => hl j (List.mem_cons_of_mem _ hj)
      have g := List.getElem?_eq_getElem hi
      have ge := rowsN_get hr g
      refine ⟨L[i] :: L2, ?_, ?_, ?_⟩
      · rw [List.filterMap_cons_some ge, e1]
        rfl
      · rw [List.filterMap_cons_some g, e2]
      · rw [List.map_cons, List.map_cons, e3]
        have e5 : (es.map (·.1))[i]? = some (nhash w (L[i]).2) := by rw [Array.getElem?_map, ge]; rfl
        have e4 : (es.map (·.1)).getD i 0 = nhash w (L[i]).2 := by simp [Array.getD_eq_getD_getElem?, e5]
        rw [e4]
  obtain ⟨L2, e1, e2, e3⟩ := key order.toList fun i hi => List.mem_range.mp (hp.mem_iff.mp hi)
  refine ⟨L2, by first | (rw [Array.toList_filterMap]; exact e1) | simpa using e1, ?_, e3⟩
  have h1 : L2.Perm ((List.range L.length).filterMap fun i => L[i]?) := by
    rw [e2]
    exact hp.filterMap _
  have h2 : ∀ n, n ≤ L.length → (List.range n).filterMap (fun i => L[i]?) = L.take n := by
    intro n
    induction n with
    | zero => intro _; rfl
    | succ n ih =>
      intro hn
      have hlt : n < L.length := hn
      rw [List.range_succ, List.filterMap_append, ih (by omega), List.take_succ, List.getElem?_eq_getElem hlt, List.filterMap_cons_some (List.getElem?_eq_getElem hlt)]
      rfl
  rw [h2 L.length (Nat.le_refl _), List.take_length] at h1
  exact h1
theorem relayN {o : Obj} (ho : s.heap.get? a = some o) (hex : o.ExactSet) (hd : o.data = .set es ep t) (hrows : es.toList = rowsN w L) (hsz : t.place.size = es.size) (hdm : t.dummies = #[]) (hfl : es.size ≤ t.mask)
    (nd : (L.map (·.2)).Nodup) (tup : ∀ p ∈ L, IsN P w s.heap p.2 p.1) (ld : w.params.followText "set-order" = true ∨ t.led = true) (few : L.length ≤ 300) {wanted M : Nat}
    (hw : SetTable.sizeAbove wanted - 1 = M) (hM : MaskB M) (hw2 : SetTable.sizeAbove wanted ≤ 512) (hn : L.length * 5 < M * 3) {Q : Unit → Shared → Prop}
    (hQ : ∀ h' L' es' ep' t', Heap.SameBut a s.heap h' → SetNR P w h' a L' es' ep' t' → L'.Perm L → Q () { s with heap := h' }) : wpAny (model P w) A (setRelay a wanted) Q E s := by
  have hsl : es.size = L.length := rowsN_len hrows
  have hfits : t.fits es.size = true := by
    unfold SetTable.fits SetTable.fill
    rw [hdm, Bool.and_eq_true, beq_iff_eq, decide_eq_true_eq]
    show t.place.size = es.size ∧ t.place.size + 0 ≤ t.mask
    omega
  obtain ⟨t', order, e, hp, T, em, el⟩ := relaidB (t := t) (hs := es.map (·.1)) (wanted := wanted) hw hM (by rw [Array.size_map, hsl]; omega)
  rw [Array.size_map, hsl] at hp
  obtain ⟨L2, r1, r2, r3⟩ := orderN L es order hrows hp
  rw [← r3] at T
  have hs2 : (order.filterMap (es[·]?)).size = es.size := by rw [rowsN_len r1, r2.length_eq, hsl]
  rw [setRelay_eq]
  refine wpAny_bind (wpAny_setState_of ho hd hfits ?_)
  dsimp only
  refine wp_if_neg (by rw [sizeLine_eq]; omega) ?_
  try refine wpAny_bind (wpAny_pure ?_)
  rw [e]
  dsimp only
  refine wpAny_bind ?_
  refine wp_if_neg (by rw [hs2]; simp) ?_
  try refine wpAny_bind (wpAny_pure ?_)
  refine wpAny_pure ?_
  dsimp only
  refine wpAny_storeSet_of ho hd ?_ (by rw [hs2, hsl, sizeLine_eq]; omega)
  have sb : Heap.SameBut a s.heap (s.heap.update a (Obj.putSet (order.filterMap (es[·]?)) t')) := Heap.SameBut.update ..
  refine hQ _ L2 (order.filterMap (es[·]?)) (ep + 1) t' sb ⟨⟨_, store_at ho hd, ⟨hex.1, hex.2.1, hex.2.2⟩, rfl⟩, r1, T, ?_, fun p hpm => isN_same (tup p (r2.mem_iff.mp hpm)) ho hd sb, by rw [el]; exact ld, by rw [r2.length_eq, em]; exact hn, by rw [r2.length_eq]; exact few⟩ r2
  exact (r2.map (·.2)).nodup_iff.mpr nd
theorem TabB.pl {t : SetTable} {hs : List Int} (T : TabB t hs) (b : Bool) : TabB { t with plain := b } hs := ⟨T.ris, T.dm, T.sz, T.mok, T.bd, T.reach⟩
theorem addN (R : SetNR P w s.heap a L es ep t) {x : Addr} {k : NestedKey} (hx : IsN P w s.heap k x) (hu : A.units + 8 < cLine) (hfew : L.length + 1 ≤ 300) {Q : Bool → Shared → Prop}
    (hQ : ∀ b h' L' es' ep' t', Heap.SameBut a s.heap h' → SetNR P w h' a L' es' ep' t' → (k ∈ L.map (·.2) → L' = L) → (k ∉ L.map (·.2) → L'.Perm ((x, k) :: L)) → Q b { s with heap := h' }) :
    wpAny (model P w) A (setAddHashed a (.ref x) (nhash w k)) Q E s := by
  obtain ⟨o, ho, hex, hd⟩ := R.ob
  have hsl := R.size
  have hroom := R.room
  unfold setAddHashed
  refine wpAny_holding ?_
  rw [show (100000 : Nat) = 99999 + 1 from rfl, setAddHashedIn_succ]
  refine wpAny_bind (wpAny_setState_of ho hd R.fits ?_)
  dsimp only
  refine wp_if_neg (by simp [byScan, Value.scannable]) ?_
  try refine wpAny_bind (wpAny_pure ?_)
  refine wpAny_bind (look_at R hx hu (fun hm => ?_) fun K hm hK hb => ?_)
  · dsimp only
    exact wpAny_pure (hQ false s.heap L es ep t (Heap.SameBut.refl a s.heap) R (fun _ => rfl) fun z => absurd hm z)
  · dsimp only
    refine wpAny_bind (wpAny_setState_of ho hd R.fits ?_)
    dsimp only
    obtain ⟨p, hpb, q2, q0, q3, q4, q5, q9⟩ := R.tab.put hK hb
    rw [List.length_map] at q2 q9
    rw [q0]
    generalize (t.put (way t.mask (nhash w k) K)).1 = t1 at q3 q4 q5 q9 ⊢
    dsimp only
    have hin : (SetTable.insertAt es p (nhash w k, Value.ref x)).toList = rowsN w (L.take p ++ (x, k) :: L.drop p) := by
      rw [SetTable.toList_insertAt, rowsN_put, R.rows]
    have pm := put_perm L p (x, k)
    have hlen : (L.take p ++ (x, k) :: L.drop p).length = L.length + 1 := pm.length_eq
    have hhs : (L.take p ++ (x, k) :: L.drop p).map (fun p => nhash w p.2) = (L.map fun p => nhash w p.2).take p ++ nhash w k :: (L.map fun p => nhash w p.2).drop p := by
      rw [List.map_append, List.map_cons, List.map_take, List.map_drop]
    rw [← hhs] at q3
    have nd1 : ((L.take p ++ (x, k) :: L.drop p).map (·.2)).Nodup := by
      refine (pm.map (·.2)).nodup_iff.mpr ?_
      rw [List.map_cons]
      exact List.nodup_cons.mpr ⟨hm, R.nd⟩
    have hes : (SetTable.insertAt es p (nhash w k, Value.ref x)).size = L.length + 1 := (rowsN_len hin).trans hlen
    generalize SetTable.insertAt es p (nhash w k, Value.ref x) = es1 at hin hes ⊢
    generalize L.take p ++ (x, k) :: L.drop p = L1 at pm hlen q3 nd1 hin
    -- the table with its mark
    have fin : ∀ b : Bool, wpAny (model P w) A (storeSet a es1 { t1 with plain := b } >>= fun _ => (if (true && ({ t1 with plain := b } : SetTable).tooFull) = true then setRelay a (SetTable.grown (L.length + 1)) >>= fun _ => pure true else pure true)) Q E s := fun b => by
      refine wpAny_bind (wpAny_storeSet_of ho hd ?_ (by rw [hes, sizeLine_eq]; omega))
      have sb : Heap.SameBut a s.heap (s.heap.update a (Obj.putSet es1 { t1 with plain := b })) := Heap.SameBut.update ..
      have ho1 := store_at (es' := es1) (t' := { t1 with plain := b }) ho hd
      generalize s.heap.update a (Obj.putSet es1 { t1 with plain := b }) = h1 at sb ho1 ⊢
      have tup1 : ∀ p ∈ L1, IsN P w h1 p.2 p.1 := fun p hp => by
        rcases List.mem_cons.mp (pm.mem_iff.mp hp) with e | hp
        · rw [e]; exact isN_same hx ho hd sb
        · exact isN_same (R.tup p hp) ho hd sb
      have ld1 : w.params.followText "set-order" = true ∨ ({ t1 with plain := b } : SetTable).led = true := by
        show _ ∨ t1.led = true
        rw [q5]
        exact R.led
      by_cases hf : ({ t1 with plain := b } : SetTable).tooFull = true
      · refine wp_if_pos (by simp [hf]) ?_
        have hfull : (L.length + 1) * 5 ≥ t1.mask * 3 := by
          have h := hf
          unfold SetTable.tooFull at h
          rw [decide_eq_true_eq] at h
          have h : t1.fill * 5 ≥ t1.mask * 3 := h
          rw [q9] at h
          exact h
        have hsz1 : t1.place.size = es1.size := by
          have h := q3.sz
          rw [List.length_map, hlen] at h
          rw [h, hes]
        have cases2 : (t.mask = 7 ∧ L.length = 4) ∨ (t.mask = 31 ∧ L.length = 18) ∨ (t.mask = 127 ∧ L.length = 76) := by
          rcases R.tab.mok with e | e | e | e
          · left; rw [q4, e] at hfull; rw [e] at hroom; exact ⟨e, by omega⟩
          · right; left; rw [q4, e] at hfull; rw [e] at hroom; exact ⟨e, by omega⟩
          · right; right; rw [q4, e] at hfull; rw [e] at hroom; exact ⟨e, by omega⟩
          · exfalso; rw [q4, e] at hfull; omega
        have go : ∀ M, SetTable.sizeAbove (SetTable.grown (L.length + 1)) - 1 = M → MaskB M → SetTable.sizeAbove (SetTable.grown (L.length + 1)) ≤ 512 → (L.length + 1) * 5 < M * 3 →
            wpAny (model P w) A (setRelay a (SetTable.grown (L.length + 1)) >>= fun _ => pure true) Q E { s with heap := h1 } := fun M h1' h2' h3' h4' => by
          refine wpAny_bind (relayN (s := { s with heap := h1 }) ho1 ⟨hex.1, hex.2.1, hex.2.2⟩ rfl hin hsz1 q3.dm (by
            show es1.size ≤ t1.mask
            rw [hes, q4]
            rcases cases2 with ⟨e, e2⟩ | ⟨e, e2⟩ | ⟨e, e2⟩ <;> omega) nd1 tup1 ld1 (by rw [hlen]; exact hfew) h1' h2' h3' (by rw [hlen]; exact h4') ?_)
          intro h2 L2 es2 ep2 t2 sb2 R2 pm2
          exact wpAny_pure (hQ true h2 L2 es2 ep2 t2 (sb.trans sb2) R2 (fun z => absurd z hm) fun _ => pm2.trans pm)
        rcases cases2 with ⟨_, e2⟩ | ⟨_, e2⟩ | ⟨_, e2⟩
        · exact go 31 (by rw [e2, sizeB_5]) (.inr (.inl rfl)) (by rw [e2, sizeB_5]; decide) (by omega)
        · exact go 127 (by rw [e2, sizeB_19]) (.inr (.inr (.inl rfl))) (by rw [e2, sizeB_19]; decide) (by omega)
        · exact go 511 (by rw [e2, sizeB_77]) (.inr (.inr (.inr rfl))) (by rw [e2, sizeB_77]; decide) (by omega)
      · refine wp_if_neg (by simp [hf]) ?_
        refine wpAny_pure (hQ true h1 L1 es1 (ep + 1) _ sb ⟨⟨_, ho1, ⟨hex.1, hex.2.1, hex.2.2⟩, rfl⟩, hin, q3.pl b, nd1, tup1, ld1, ?_, by rw [hlen]; exact hfew⟩ (fun z => absurd z hm) fun _ => pm)
        have h := hf
        unfold SetTable.tooFull at h
        rw [decide_eq_true_eq] at h
        have h : ¬ t1.fill * 5 ≥ t1.mask * 3 := h
        rw [q9] at h
        show L1.length * 5 < t1.mask * 3
        rw [hlen]
        omega
    rw [hsl]
    have ft : ∀ b : Bool, (if b = true then t1 else { t1 with plain := false }) = { t1 with plain := if b = true then t1.plain else false } := fun b => by cases b <;> rfl
    have fin' : ∀ b : Bool, wpAny (model P w) A (storeSet a es1 (if b = true then t1 else { t1 with plain := false }) >>= fun _ => (if (true && (if b = true then t1 else { t1 with plain := false }).tooFull) = true then setRelay a (SetTable.grown (L.length + 1)) >>= fun _ => pure true else pure true)) Q E s := fun b => by
      rw [ft b]
      exact fin _
    by_cases hpl : t1.plain = true
    · simp only [hpl, if_true]
      refine wpAny_bind (hash_key k _ 8 s hx.1 _ _ _ fun b => ?_)
      exact fin' b
    · simp only [hpl, Bool.false_eq_true, if_false]
      refine wpAny_bind (wpAny_pure ?_)
      exact fin' true
end
end
end Bk
namespace Bk
open PySem PySem.Spec PyProof.Rows L2
theorem nodup_len {α : Type} [DecidableEq α] : ∀ (l D : List α), l.Nodup → (∀ x ∈ l, x ∈ D) → l.length ≤ D.length
  | [], _, _, _ => Nat.zero_le _
  | x :: l, D, hn, hs => by
    obtain ⟨h1, h2⟩ := List.nodup_cons.mp hn
    have hx : x ∈ D := hs x List.mem_cons_self
    have ih := nodup_len l (D.erase x) h2 fun y hy => (List.mem_erase_of_ne (show y ≠ x from fun e => h1 (by rw [← e]; exact hy))).2 (hs y (List.mem_cons_of_mem _ hy))
    have e := List.length_erase_of_mem hx
    have hp : 0 < D.length := List.length_pos_of_mem hx
    rw [List.length_cons]
    omega
structure GotN (ks : List EnN) (i : Nat) (L : List EnN) : Prop where
  sub : ∀ p ∈ L, p ∈ ks.take i
  all : ∀ p ∈ ks.take i, p.2 ∈ L.map (·.2)
theorem GotN.same {ks L : List EnN} {i : Nat} {x : EnN} (g : GotN ks i L) (h : ks[i]? = some x) (hm : x.2 ∈ L.map (·.2)) : GotN ks (i + 1) L := by
  refine ⟨fun p hp => ?_, fun p hp => ?_⟩
  · rw [take_next h]
    exact List.mem_append_left _ (g.sub p hp)
  · rw [take_next h] at hp
    rcases List.mem_append.mp hp with z | z
    · exact g.all p z
    · rw [List.mem_singleton.mp z]; exact hm
theorem GotN.more {ks L L' : List EnN} {i : Nat} {x : EnN} (g : GotN ks i L) (h : ks[i]? = some x) (pm : L'.Perm (x :: L)) : GotN ks (i + 1) L' := by
  refine ⟨fun p hp => ?_, fun p hp => ?_⟩
  · rw [take_next h]
    rcases List.mem_cons.mp (pm.mem_iff.mp hp) with e | z
    · rw [e]; exact List.mem_append_right _ (List.mem_singleton.mpr rfl)
    · exact List.mem_append_left _ (g.sub p z)
  · rw [(pm.map (·.2)).mem_iff, List.map_cons]
    rw [take_next h] at hp
    rcases List.mem_append.mp hp with z | z
    · exact List.mem_cons_of_mem _ (g.all p z)
    · rw [List.mem_singleton.mp z]; exact List.mem_cons_self
section
variable {P : Program} {w : World} {A : Around} {E : Value → Shared → Prop} {s : Shared}
theorem isN_keep {h h' : Heap} {k : NestedKey} {b : Addr} (x : IsN P w h k b) (hk : ∀ c o, h.get? c = some o → h'.get? c = some o) : IsN P w h' k b :=
  ⟨NestedIs.at (fun b ob vs n hb hc => hk b ob hb) k _ x.1, x.2⟩
theorem SetNR.keep {h h' : Heap} {a : Addr} {L : List EnN} {es : Array (Int × Value)} {ep : Nat} {t : SetTable} (R : SetNR P w h a L es ep t) (ha : ∀ o, h.get? a = some o → h'.get? a = some o) (ht : ∀ p ∈ L, IsN P w h' p.2 p.1) : SetNR P w h' a L es ep t := by
  obtain ⟨o, ho, r⟩ := R.ob
  exact ⟨⟨o, ha o ho, r⟩, R.rows, R.tab, R.nd, ht, R.led, R.room, R.few⟩
theorem setNR_fresh {h : Heap} {a : Addr} (ho : h.get? a = some { cls := .type "set", dict := none, data := .set #[] 0 (.fresh 0 0 (!w.params.followText "set-order")) }) : SetNR P w h a [] #[] 0 (.fresh 0 0 (!w.params.followText "set-order")) where
  ob := ⟨_, ho, ⟨rfl, rfl, rfl⟩, rfl⟩
  rows := rfl
  tab := ⟨List.Pairwise.nil, rfl, rfl, .inl rfl, fun x hx => (by cases hx), fun i h j hi => (by simp at hi)⟩
  nd := List.nodup_nil
  tup := fun p hp => (by cases hp)
  led := by
    show _ ∨ (!w.params.followText "set-order") = true
    cases w.params.followText "set-order"
    · exact .inr rfl
    · exact .inl rfl
  room := by
    show 0 * 5 < 7 * 3
    decide
  few := by
    show 0 ≤ 300
    decide
theorem set_update_keys {I : Addr} {fp wr : List Addr} {G : Array GenState → Array GenState → Prop} {n : Nat} {Pv : Nat → Value → Prop} {St : Nat → Shared → Prop} {R : Result → Shared → Prop}
    (W : WalksS P w A.in1 I fp wr G n Pv St) (S : Addr) (hSf : S ∉ fp) (ks : List EnN) (hn : n = ks.length) {Dk : List NestedKey} (hD : ∀ p ∈ ks, p.2 ∈ Dk) (hfew : Dk.length ≤ 299) (hval : ∀ i v, Pv i v → ∃ p, ks[i]? = some p ∧ v = .ref p.1)
    (h0 : Heap) (hk : ∀ p ∈ ks, IsN P w h0 p.2 p.1) (hS0 : h0.get? S = none) (hw0 : ∀ b ∈ wr, h0.get? b = none) (hu : A.in1.units + 8 < cLine) :
    ∀ (k i : Nat) (s : Shared), n - i = k → i ≤ n → St i s → (∀ b o, h0.get? b = some o → s.heap.get? b = some o) → (∃ L es ep t, SetNR P w s.heap S L es ep t ∧ GotN ks i L) →
      (∀ s' L es ep t, Moved (S :: wr) G s s' → SetNR P w s'.heap S L es ep t → GotN ks n L → (∀ b o, h0.get? b = some o → s'.heap.get? b = some o) → R (.ok (.ret .none)) s') →
      codeAny (model P w) A (.builtin "set.update.loop" ⟨[.ref S, .ref I], []⟩) R s := by
  have hSw : S ∉ wr := fun h => hSf (W.sub _ h)
  have hsub : ∀ b ∈ wr, b ∈ S :: wr := fun b hb => List.mem_cons_of_mem _ hb
  have keepM : ∀ {s s' : Shared}, Moved wr G s s' → (∀ b o, h0.get? b = some o → s.heap.get? b = some o) → ∀ b o, h0.get? b = some o → s'.heap.get? b = some o := fun hm hkp b o e =>
    hm.heap b o (fun hb => by rw [hw0 b hb] at e; cases e) (hkp b o e)
  intro k
  induction k with
  | zero =>
    intro i s hk' hi hst hkp ⟨L, es, ep, t, hS, g⟩ hR
    have hin : i = n := by omega
    subst hin
    refine codeAny_builtin F.entry_set_update_loop ?_
    rw [Around.under_plainId F.plain_set_update_loop _]
    show wpAny _ A.in1 (pyNext (.ref I) >>= _) _ _ s
    refine wpAny_bind (W.done s _ _ hst fun s' hm => ?_)
    show wpAny _ A.in1 (ret Value.none) _ _ s'
    have hkp' := keepM hm hkp
    have sub : ∀ p ∈ L, p ∈ ks := fun p hp => List.mem_of_mem_take (g.sub p hp)
    exact wpAny_pure (hR s' L es ep t (hm.mono hsub) (hS.keep (fun o e => hm.heap S o hSw e) fun p hp => isN_keep (hk p (sub p hp)) hkp') g hkp')
  | succ k ih =>
    intro i s hk' hi hst hkp ⟨L, es, ep, t, hS, g⟩ hR
    have hlt : i < n := by omega
    refine codeAny_builtin F.entry_set_update_loop ?_
    rw [Around.under_plainId F.plain_set_update_loop _]
    show wpAny _ A.in1 (pyNext (.ref I) >>= _) _ _ s
    refine wpAny_bind (W.item i s _ _ hlt hst fun v s' hP hst' hm => ?_)
    obtain ⟨p, hp, rfl⟩ := hval i v hP
    have hkp' := keepM hm hkp
    have sub : ∀ p ∈ L, p ∈ ks := fun p hp => List.mem_of_mem_take (g.sub p hp)
    have hS' : SetNR P w s'.heap S L es ep t := hS.keep (fun o e => hm.heap S o hSw e) fun q hq => isN_keep (hk q (sub q hq)) hkp'
    have hx : IsN P w s'.heap p.2 p.1 := isN_keep (hk p (List.mem_of_getElem? hp)) hkp'
    have few : L.length ≤ 299 := by
      have := nodup_len (L.map (·.2)) Dk hS.nd fun x hx => by
        obtain ⟨q, hq, rfl⟩ := List.mem_map.mp hx
        exact hD q (sub q hq)
      rw [List.length_map] at this
      omega
    show wpAny _ A.in1 (holding [Value.ref p.1] (setAdd S (.ref p.1)) >>= _) _ _ s'
    refine wpAny_bind (wpAny_holding ?_)
    unfold setAdd
    refine wpAny_holding ?_
    refine wpAny_bind ((nestedKind P w).pyHash hu hx ?_)
    refine addN (s := { s' with toks := s'.toks + (nestedKind P w).draws p.2 }) hS' hx hu (by omega) fun b h' L' es' ep' t' hsb hS2 c1 c2 => ?_
    have g' : GotN ks (i + 1) L' := by
      rcases Classical.em (p.2 ∈ L.map (·.2)) with c | c
      · rw [c1 c]; exact g.same hp c
      · exact g.more hp (c2 c)
    have hkp2 : ∀ b o, h0.get? b = some o → h'.get? b = some o := fun b o e => (hsb.2 b (fun z => by rw [z, hS0] at e; cases e)).trans (hkp' b o e)
    refine wpAny_pure ⟨plainId_quiet F.plain_set_update_loop _, ih (i + 1) _ (by omega) hlt (W.frame _ s' _ _ hst' (Nat.le_add_right _ _) fun b hb o e => ?_) hkp2 ⟨L', es', ep', t', hS2, g'⟩ fun s'' L2 es2 ep2 t2 hm'' hS'' g'' hkp'' => ?_⟩
    · rw [hsb.2 b (fun h : b = S => hSf (by rw [← h]; exact hb))]; exact e
    · refine hR s'' L2 es2 ep2 t2 (Moved.trans W.gtrans ((hm.mono hsub).then_heap (Nat.le_add_right _ _) fun b o hb e => ?_) hm'') hS'' g'' hkp''
      rw [hsb.2 b (fun h : b = S => hb (by rw [h]; exact List.mem_cons_self))]; exact e
theorem call_set_keys {l : Addr} {items : Array Value} (ks : List EnN) {Q : Value → Shared → Prop} (hh : A.handled = none) (hl : s.heap.IsList l items) (hit : items.toList = ks.map fun p => Value.ref p.1)
    (hk : ∀ p ∈ ks, IsN P w s.heap p.2 p.1) {Dk : List NestedKey} (hD : ∀ p ∈ ks, p.2 ∈ Dk) (hfew : Dk.length ≤ 299) (hu : A.units + 32 < cLine)
    (h : ∀ (h' : Heap) (tk : Nat) L es ep t, SetNR P w h' s.heap.objs.size L es ep t → GotN ks ks.length L → (∀ b o, s.heap.get? b = some o → h'.get? b = some o) → Q (.ref s.heap.objs.size) { s with heap := h', toks := tk }) :
    wpAny (model P w) A (call (.type "set") [.ref l]) Q E s := by
  have hisz : items.size = ks.length := by
    have q := congrArg List.length hit
    rw [Array.length_toList, List.length_map] at q
    exact q
  obtain ⟨c, tl, hmro⟩ := F.called_set.mro
  have hmade := F.called_set.made
  have hsub := F.called_set.sub
  refine wpAny_call (codeAny_of_tree ?_)
  show wpAny _ _ (callAny (.type "set") _) _ _ _
  refine wpAny_pure ⟨Code.quiet_builtin _ (by decide +kernel), codeAny_builtin F.entry_type_call ?_⟩
  rw [Around.under_plain (weight_type_call_type "set" [.ref l] []) rfl]
  have h1 := F.called_set.notType
  have h2 := F.called_set.canCreate
  have hct := F.typeCall_set_1 (.ref l)
  repeat (any_goals (first | assumption | wp_step))
  refine codeAny_mono (code_set_led1 (.ref l) (E := E) (Q₁ := fun obj s₁ => obj = .ref s.heap.objs.size ∧ s₁ = { s with heap := s.heap.push { cls := .type "set", dict := none, data := .set #[] 0 (.fresh 0 0 (!w.params.followText "set-order")) } }) ⟨rfl, rfl⟩) fun r s₁ hr => ?_
  cases r with
  | error e => exact hr
  | ok fl =>
    cases fl with
    | ret obj =>
      obtain ⟨rfl, rfl⟩ := hr
      have hS : (s.heap.push { cls := .type "set", dict := none, data := .set #[] 0 (.fresh 0 0 (!w.params.followText "set-order")) }).get? s.heap.objs.size = some { cls := .type "set", dict := none, data := .set #[] 0 (.fresh 0 0 (!w.params.followText "set-order")) } := Heap.get?_push_size _ rfl
      have hT : Shared.TypeIs { s with heap := s.heap.push { cls := .type "set", dict := none, data := .set #[] 0 (.fresh 0 0 (!w.params.followText "set-order")) } } (.ref s.heap.objs.size) "set" := ⟨_, hS, rfl⟩
      have hli := F.called_set.init.lookup
      have hbi := F.called_set.init.bind (.ref s.heap.objs.size)
      repeat (any_goals (first | assumption | wp_step))
      refine codeAny_mono (codeAny_call_builtin (R := wants (fun r s₂ => r = .none ∧ ∃ h' tk L es ep t, s₂ = { s with heap := h', toks := tk } ∧ SetNR P w h' s.heap.objs.size L es ep t ∧ GotN ks ks.length L ∧
          (∀ b o, s.heap.get? b = some o → h'.get? b = some o)) E) F.called_set.init.plain F.entry_set_init (check_set_init_1 hT ?_)) fun r₂ s₂ hr₂ => ?_
      · obtain ⟨ol, hol, hcl, nl, hdl⟩ := hl
        obtain ⟨ocls, odict, odata, oslots⟩ := ol
        simp only at hcl hdl
        subst hcl; subst hdl
        have hol' : (s.heap.push { cls := .type "set", dict := none, data := .set #[] 0 (.fresh 0 0 (!w.params.followText "set-order")) }).get? l = some { cls := .type "list", dict := odict, data := .seq items nl, slots := oslots } := Heap.get?_push_of_some _ hol
        have hsls := F.sub_list_set
        have hslf := F.sub_list_frozenset
        have hne : (Value.type "list" == Value.type "dict") = false := by decide
        have hl1 : (s.heap.push { cls := .type "set", dict := none, data := .set #[] 0 (.fresh 0 0 (!w.params.followText "set-order")) }).IsList l items := ⟨_, hol', rfl, nl, rfl⟩
        unfold Builtin.«set.__init__» noKeywords Builtin.Frozenset.updateFrom
        generalize hPI : pyIter = PI
        wp_walk
        subst hPI
        refine wpAny_pyIter_list hl1 ?_
        refine wpAny_bind (wpAny_runValue ?_)
        have hlS : l < s.heap.objs.size := Heap.lt_size hol
        have hh3 : A.in1.in1.in1.handled = none := by simp [hh]
        have hneI : l ≠ (s.heap.push { cls := .type "set", dict := none, data := .set #[] 0 (.fresh 0 0 (!w.params.followText "set-order")) }).objs.size := by
          rw [Heap.size_push]; exact Nat.ne_of_lt (Nat.lt_succ_of_lt hlS)
        have hSf : s.heap.objs.size ∉ [(s.heap.push { cls := .type "set", dict := none, data := .set #[] 0 (.fresh 0 0 (!w.params.followText "set-order")) }).objs.size, l] := by
          rw [Heap.size_push]; simp only [List.mem_cons, List.mem_singleton, List.not_mem_nil, or_false, not_or]
          exact ⟨Nat.ne_of_lt (Nat.lt_succ_self _), Nat.ne_of_gt hlS⟩
        have hval : ∀ (i : Nat) (v : Value), items[i]? = some v → ∃ p, ks[i]? = some p ∧ v = .ref p.1 := fun i v hv => by
          have q : items.toList[i]? = some v := by rw [Array.getElem?_toList]; exact hv
          rw [hit, List.getElem?_map] at q
          cases hq : ks[i]? with
          | none => rw [hq] at q; cases q
          | some p =>
            rw [hq] at q
            exact ⟨p, rfl, (Option.some.inj q).symm⟩
        have none_of : ∀ b, s.heap.objs.size ≤ b → s.heap.get? b = none := fun b hb => by
          cases q : s.heap.get? b with
          | none => rfl
          | some o => exact absurd (Nat.lt_of_lt_of_le (Heap.lt_size q) hb) (Nat.lt_irrefl _)
        refine set_update_keys ((Walks.list hh3 _ l hneI items).toS) s.heap.objs.size
          hSf ks hisz hD hfew hval s.heap hk (none_of _ (Nat.le_refl _)) (fun b hb => none_of b (by
            rw [List.mem_singleton.mp hb, Heap.size_push]
            exact Nat.le_succ _)) (by simp only [units_in1]; omega) (items.size - 0) 0 _ (by omega) (Nat.zero_le _)
          ⟨⟨_, Heap.get?_push_size _ rfl, rfl, rfl⟩, (hl1.push _)⟩ (fun b o e => Heap.get?_push_of_some _ (Heap.get?_push_of_some _ e)) ?hS0 ?hR
        case hS0 =>
          have hget : ((s.heap.push { cls := .type "set", dict := none, data := .set #[] 0 (.fresh 0 0 (!w.params.followText "set-order")) }).push { cls := .type "list_iterator", data := .fields #[.ref l, .int 0 0] }).get? s.heap.objs.size
              = some { cls := .type "set", dict := none, data := .set #[] 0 (.fresh 0 0 (!w.params.followText "set-order")) } := Heap.get?_push_of_some _ hS
          exact ⟨[], #[], 0, _, setNR_fresh hget, ⟨fun p h => (by cases h), fun p h => (by simp at h)⟩⟩
        case hR =>
          intro s' L es ep t hm hS' g' hkp
          obtain ⟨h', g2, d', tk', os'⟩ := s'
          have eg : g2 = s.gens := hm.gens
          have ed : d' = s.drawn := hm.drawn
          have eo : os' = s.os := hm.os
          subst eg; subst ed; subst eo
          show wpAny _ _ _ _ _ _
          refine wpAny_pure ?_
          show wpAny _ _ (ret Value.none) _ _ _
          rw [hisz] at g'
          exact wpAny_pure ⟨rfl, h', tk', L, es, ep, t, rfl, hS', g', hkp⟩
      · cases r₂ with
        | error e => exact hr₂
        | ok fl₂ =>
          cases fl₂ with
          | ret r =>
            obtain ⟨rfl, h', tk, L, es, ep, t, rfl, hS', g', hk'⟩ := hr₂
            repeat (any_goals (first | assumption | wp_step))
            exact h _ _ _ _ _ _ hS' g' hk'
          | _ => exact hr₂.elim
    | _ => exact hr.elim
end
end Bk
namespace Bk
open PySem PySem.Spec PyProof.Rows L2
section
variable {P : Program} {w : World} {A : Around} {E : Value → Shared → Prop} {s : Shared}
theorem call_set_keysT {l : Addr} {items : Array Value} (ks : List EnN) {Q : Value → Shared → Prop} (hh : A.handled = none) (hl : s.heap.IsTuple l items) (hit : items.toList = ks.map fun p => Value.ref p.1)
    (hk : ∀ p ∈ ks, IsN P w s.heap p.2 p.1) {Dk : List NestedKey} (hD : ∀ p ∈ ks, p.2 ∈ Dk) (hfew : Dk.length ≤ 299) (hu : A.units + 32 < cLine)
    (h : ∀ (h' : Heap) (tk : Nat) L es ep t, SetNR P w h' s.heap.objs.size L es ep t → GotN ks ks.length L → (∀ b o, s.heap.get? b = some o → h'.get? b = some o) → Q (.ref s.heap.objs.size) { s with heap := h', toks := tk }) :
    wpAny (model P w) A (call (.type "set") [.ref l]) Q E s := by
  have hisz : items.size = ks.length := by
    have q := congrArg List.length hit
    rw [Array.length_toList, List.length_map] at q
    exact q
  obtain ⟨c, tl, hmro⟩ := F.called_set.mro
  have hmade := F.called_set.made
  have hsub := F.called_set.sub
  refine wpAny_call (codeAny_of_tree ?_)
  show wpAny _ _ (callAny (.type "set") _) _ _ _
  refine wpAny_pure ⟨Code.quiet_builtin _ (by decide +kernel), codeAny_builtin F.entry_type_call ?_⟩
  rw [Around.under_plain (weight_type_call_type "set" [.ref l] []) rfl]
  have h1 := F.called_set.notType
  have h2 := F.called_set.canCreate
  have hct := F.typeCall_set_1 (.ref l)
  repeat (any_goals (first | assumption | wp_step))
  refine codeAny_mono (code_set_led1 (.ref l) (E := E) (Q₁ := fun obj s₁ => obj = .ref s.heap.objs.size ∧ s₁ = { s with heap := s.heap.push { cls := .type "set", dict := none, data := .set #[] 0 (.fresh 0 0 (!w.params.followText "set-order")) } }) ⟨rfl, rfl⟩) fun r s₁ hr => ?_
  cases r with
  | error e => exact hr
  | ok fl =>
    cases fl with
    | ret obj =>
      obtain ⟨rfl, rfl⟩ := hr
      have hS : (s.heap.push { cls := .type "set", dict := none, data := .set #[] 0 (.fresh 0 0 (!w.params.followText "set-order")) }).get? s.heap.objs.size = some { cls := .type "set", dict := none, data := .set #[] 0 (.fresh 0 0 (!w.params.followText "set-order")) } := Heap.get?_push_size _ rfl
      have hT : Shared.TypeIs { s with heap := s.heap.push { cls := .type "set", dict := none, data := .set #[] 0 (.fresh 0 0 (!w.params.followText "set-order")) } } (.ref s.heap.objs.size) "set" := ⟨_, hS, rfl⟩
      have hli := F.called_set.init.lookup
      have hbi := F.called_set.init.bind (.ref s.heap.objs.size)
      repeat (any_goals (first | assumption | wp_step))
      refine codeAny_mono (codeAny_call_builtin (R := wants (fun r s₂ => r = .none ∧ ∃ h' tk L es ep t, s₂ = { s with heap := h', toks := tk } ∧ SetNR P w h' s.heap.objs.size L es ep t ∧ GotN ks ks.length L ∧
          (∀ b o, s.heap.get? b = some o → h'.get? b = some o)) E) F.called_set.init.plain F.entry_set_init (check_set_init_1 hT ?_)) fun r₂ s₂ hr₂ => ?_
      · obtain ⟨ol, hol, hcl, nl, hdl⟩ := hl
        obtain ⟨ocls, odict, odata, oslots⟩ := ol
        simp only at hcl hdl
        subst hcl; subst hdl
        have hol' : (s.heap.push { cls := .type "set", dict := none, data := .set #[] 0 (.fresh 0 0 (!w.params.followText "set-order")) }).get? l = some { cls := .type "tuple", dict := odict, data := .seq items nl, slots := oslots } := Heap.get?_push_of_some _ hol
        have hsls := F.sub_tuple_set
        have hslf := F.sub_tuple_frozenset
        have hne : (Value.type "tuple" == Value.type "dict") = false := by decide
        have hl1 : (s.heap.push { cls := .type "set", dict := none, data := .set #[] 0 (.fresh 0 0 (!w.params.followText "set-order")) }).IsTuple l items := ⟨_, hol', rfl, nl, rfl⟩
        unfold Builtin.«set.__init__» noKeywords Builtin.Frozenset.updateFrom
        generalize hPI : pyIter = PI
        wp_walk
        subst hPI
        refine wpAny_pyIter_tuple hl1 ?_
        refine wpAny_bind (wpAny_runValue ?_)
        have hlS : l < s.heap.objs.size := Heap.lt_size hol
        have hh3 : A.in1.in1.in1.handled = none := by simp [hh]
        have hneI : l ≠ (s.heap.push { cls := .type "set", dict := none, data := .set #[] 0 (.fresh 0 0 (!w.params.followText "set-order")) }).objs.size := by
          rw [Heap.size_push]; exact Nat.ne_of_lt (Nat.lt_succ_of_lt hlS)
        have hSf : s.heap.objs.size ∉ [(s.heap.push { cls := .type "set", dict := none, data := .set #[] 0 (.fresh 0 0 (!w.params.followText "set-order")) }).objs.size, l] := by
          rw [Heap.size_push]; simp only [List.mem_cons, List.mem_singleton, List.not_mem_nil, or_false, not_or]
          exact ⟨Nat.ne_of_lt (Nat.lt_succ_self _), Nat.ne_of_gt hlS⟩
        have hval : ∀ (i : Nat) (v : Value), items[i]? = some v → ∃ p, ks[i]? = some p ∧ v = .ref p.1 := fun i v hv => by
          have q : items.toList[i]? = some v := by rw [Array.getElem?_toList]; exact hv
          rw [hit, List.getElem?_map] at q
          cases hq : ks[i]? with
          | none => rw [hq] at q; cases q
          | some p =>
            rw [hq] at q
            exact ⟨p, rfl, (Option.some.inj q).symm⟩
        have none_of : ∀ b, s.heap.objs.size ≤ b → s.heap.get? b = none := fun b hb => by
          cases q : s.heap.get? b with
          | none => rfl
          | some o => exact absurd (Nat.lt_of_lt_of_le (Heap.lt_size q) hb) (Nat.lt_irrefl _)
        refine set_update_keys ((Walks.tuple hh3 _ l hneI items).toS) s.heap.objs.size
          hSf ks hisz hD hfew hval s.heap hk (none_of _ (Nat.le_refl _)) (fun b hb => none_of b (by
            rw [List.mem_singleton.mp hb, Heap.size_push]
            exact Nat.le_succ _)) (by simp only [units_in1]; omega) (items.size - 0) 0 _ (by omega) (Nat.zero_le _)
          ⟨⟨_, Heap.get?_push_size _ rfl, rfl, rfl⟩, hl1.push _⟩ (fun b o e => Heap.get?_push_of_some _ (Heap.get?_push_of_some _ e)) ?hS0 ?hR
        case hS0 =>
          have hget : ((s.heap.push { cls := .type "set", dict := none, data := .set #[] 0 (.fresh 0 0 (!w.params.followText "set-order")) }).push { cls := .type "tuple_iterator", data := .fields #[.ref l, .int 0 0] }).get? s.heap.objs.size
              = some { cls := .type "set", dict := none, data := .set #[] 0 (.fresh 0 0 (!w.params.followText "set-order")) } := Heap.get?_push_of_some _ hS
          exact ⟨[], #[], 0, _, setNR_fresh hget, ⟨fun p h => (by cases h), fun p h => (by simp at h)⟩⟩
        case hR =>
          intro s' L es ep t hm hS' g' hkp
          obtain ⟨h', g2, d', tk', os'⟩ := s'
          have eg : g2 = s.gens := hm.gens
          have ed : d' = s.drawn := hm.drawn
          have eo : os' = s.os := hm.os
          subst eg; subst ed; subst eo
          show wpAny _ _ _ _ _ _
          refine wpAny_pure ?_
          show wpAny _ _ (ret Value.none) _ _ _
          rw [hisz] at g'
          exact wpAny_pure ⟨rfl, h', tk', L, es, ep, t, rfl, hS', g', hkp⟩
      · cases r₂ with
        | error e => exact hr₂
        | ok fl₂ =>
          cases fl₂ with
          | ret r =>
            obtain ⟨rfl, h', tk, L, es, ep, t, rfl, hS', g', hk'⟩ := hr₂
            repeat (any_goals (first | assumption | wp_step))
            exact h _ _ _ _ _ _ hS' g' hk'
          | _ => exact hr₂.elim
    | _ => exact hr.elim
end
end Bk
namespace Bk
open PySem PySem.Spec PyProof.Rows L2
section
variable {P : Program} {w : World} {A : Around} {E : Value → Shared → Prop} {s : Shared}
theorem sortsOne {vs : List Value} {ds : List PyData} (e : W.EachIs (fun v d => ∃ as, Reads s.heap v d as) vs ds) (hal : W.AllAlike ds) (h1 : vs.length ≤ 1) (hn : ∀ d ∈ ds, d ≠ .none) (hu : ∀ d, d ∈ ds → A.units + d.depth < cLine) : W.SortsAt P w A s (W.dataKind s.heap ds) vs := by
  refine ⟨fun v hv => ?_, general', fun E x y a b Q ha hb hq => ?_, fun h2 => by omega⟩
  · obtain ⟨d, hd, as, r⟩ := e.left v hv
    exact ⟨_, W.dataKind_some hal hd r⟩
  · obtain ⟨d, as, hd, ra, rfl⟩ := W.dataKind_inv ha
    obtain ⟨d', as', hd', rb, rfl⟩ := W.dataKind_inv hb
    show wpAny _ _ (oneLt' false x y) _ _ _
    refine W.oneLt_alike (fun z => nomatch z) ra rb (hal d hd d' hd') (hn d hd) ?_ hq
    have := hu d hd
    omega
def SrtOk (ds : List PyData) : Prop := W.Sortable ds ∨ (ds.length ≤ 1 ∧ ∀ d ∈ ds, d ≠ .none)
theorem sortsN {vs : List Value} {ds : List PyData} (e : W.EachIs (fun v d => ∃ as, Reads s.heap v d as) vs ds) (hal : W.AllAlike ds) (hk : SrtOk ds) (hu : ∀ d, d ∈ ds → A.units + d.depth < cLine) : W.SortsAt P w A s (W.dataKind s.heap ds) vs := by
  rcases hk with hk | ⟨h1, hn⟩
  · exact W.SortsAt.data e hal hk hu
  · exact sortsOne e hal (by rw [e.length]; exact h1) hn hu
theorem each_map_ref {R : Value → EnN → Prop} : ∀ {L : List EnN}, (∀ p ∈ L, R (.ref p.1) p) → W.EachIs R (L.map fun p => Value.ref p.1) L
  | [], _ => .nil
  | p :: L, h => .cons (h p List.mem_cons_self) (each_map_ref fun q hq => h q (List.mem_cons_of_mem _ hq))
theorem each_refs : ∀ {vs : List Value} {L : List EnN}, W.EachIs (fun v p => v = Value.ref p.1) vs L → vs = L.map fun p => Value.ref p.1
  | _, _, .nil => rfl
  | _, _, .cons h t => by rw [h, each_refs t]; rfl
theorem sortedN {a : Addr} {L : List EnN} {es : Array (Int × Value)} {ep : Nat} {t : SetTable} {Q : Value → Shared → Prop} (R : SetNR P w s.heap a L es ep t) (hh : A.handled = none)
    (enc : EnN → PyData) (hr : ∀ h' : Heap, (∀ b o, s.heap.get? b = some o → h'.get? b = some o) → ∀ p ∈ L, ∃ as, Reads h' (.ref p.1) (enc p) as)
    (hal : W.AllAlike (L.map enc)) (hk : SrtOk (L.map enc)) (hu : ∀ p ∈ L, A.units + 16 + (enc p).depth < cLine)
    (hQ : ∀ s' p (out : Array Value) (c : Nat) (L' : List EnN), (∀ b o, s.heap.get? b = some o → s'.heap.get? b = some o) → s'.gens = s.gens → s'.os = s.os → s.heap.objs.size ≤ p →
      s'.heap.get? p = some (seqObj "list" out c) → out.toList = L'.map (fun q => Value.ref q.1) → L'.Perm L → L'.Pairwise (fun q r => W.dataLe false enc q r = true) → Q (.ref p) s') :
    wpAny (model P w) A (call (.builtin "sorted") [.ref a]) Q E s := by
  obtain ⟨o, ho, hex, hd⟩ := R.ob
  have hsz := R.size
  have hfew := R.few
  refine Calls.call_function_entry kind_sorted plain_sorted entry_sorted (args_sorted1 _) ?_
  unfold Builtin.«sorted»
  refine wpAny_bind (m := checkCount "sorted" 1 1 _) (wpAny_pure ?_)
  refine wpAny_bind (collect_set (A := A.in1) hh ⟨o, ho, hex.1, hd⟩ R.fits (by unfold scanBound; omega) R.tab.ris R.led fun s1 vs k1 hz g1 o1 pm => ?_)
  have hes : es.toList.map (·.2) = L.map fun q => Value.ref q.1 := by
    rw [R.rows]
    unfold rowsN
    rw [List.map_map]
    rfl
  rw [hes] at pm
  have one : ∀ q ∈ L, ∀ r ∈ L, q.1 = r.1 → q = r := fun q hq r hr e => by
    have a1 := R.tup q hq
    have a2 := R.tup r hr
    rw [e] at a1
    exact Prod.ext e ((nestedKind P w).inj a1 a2)
  have ord : ∀ vs : List Value, (∀ v ∈ vs, ∃ q ∈ L, v = Value.ref q.1) → ∃ L1 : List EnN, vs = L1.map (fun q => Value.ref q.1) ∧ ∀ q ∈ L1, q ∈ L := by
    intro vs
    induction vs with
    | nil => intro _; exact ⟨[], rfl, fun q hq => (by cases hq)⟩
    | cons v vs ih =>
      intro hv
      obtain ⟨q, hq, e⟩ := hv v List.mem_cons_self
      obtain ⟨L1, e1, hs⟩ := ih fun u hu => hv u (List.mem_cons_of_mem _ hu)
      refine ⟨q :: L1, by rw [List.map_cons, e, e1], fun r hr => ?_⟩
      rcases List.mem_cons.mp hr with z | z
      · rw [z]; exact hq
      · exact hs r z
  obtain ⟨L1, rfl, hs1⟩ := ord vs fun v hv => by
    obtain ⟨q, hq, e⟩ := List.mem_map.mp (pm.mem_iff.mp hv)
    exact ⟨q, hq, e.symm⟩
  have nL : L.Nodup := nodup_of_map R.nd
  have p1 : L1.Perm L := by
    have nref : (L.map fun q => Value.ref q.1).Nodup := by
      refine List.pairwise_map.mpr (List.Pairwise.imp_of_mem (fun {q r} hq hr hne e => ?_) nL)
      injection e with e
      exact hne (one q hq r hr e)
    have n1 : L1.Nodup := nodup_of_map (pm.nodup_iff.mpr nref)
    refine (List.perm_ext_iff_of_nodup n1 nL).mpr fun q => ⟨hs1 q, fun hq => ?_⟩
    have hm : Value.ref q.1 ∈ L1.map (fun q => Value.ref q.1) := pm.mem_iff.mpr (List.mem_map.mpr ⟨q, hq, rfl⟩)
    obtain ⟨r, hr, e⟩ := List.mem_map.mp hm
    injection e with e
    rw [← one r (hs1 r hr) q hq e]
    exact hr
  have hvl : (L1.map fun q => Value.ref q.1).length ≤ 300 := by rw [pm.length_eq, List.length_map]; exact hfew
  refine wpAny_bind (wpAny_newList ?_ (by rw [sizeLine_eq]; omega))
  have hoL : (s1.heap.push (seqObj "list" (L1.map fun q => Value.ref q.1).toArray 0)).get? s1.heap.objs.size = some (seqObj "list" (L1.map fun q => Value.ref q.1).toArray 0) := Heap.get?_push_size _ rfl
  have old : ∀ b u, s.heap.get? b = some u → (W.sortingHeap (s1.heap.push (seqObj "list" (L1.map fun q => Value.ref q.1).toArray 0)) s1.heap.objs.size (L1.map fun q => Value.ref q.1)).get? b = some u := fun b u e => by
    have q := k1 b u e
    exact W.sortingHeap_old (Nat.ne_of_lt (Heap.lt_size q)) (Heap.get?_push_of_some _ q)
  have er : W.EachIs (fun v p => ∃ as, Reads (W.sortingHeap (s1.heap.push (seqObj "list" (L1.map fun q => Value.ref q.1).toArray 0)) s1.heap.objs.size (L1.map fun q => Value.ref q.1)) v (enc p) as) (L1.map fun q => Value.ref q.1) L1 := each_map_ref fun p hp => hr _ old p (hs1 p hp)
  have pe : (L1.map enc).Perm (L.map enc) := p1.map enc
  have hal1 : W.AllAlike (L1.map enc) := fun d hd d' hd' => hal d (pe.mem_iff.mp hd) d' (pe.mem_iff.mp hd')
  have hk1 : SrtOk (L1.map enc) := by
    rcases hk with (hk | hk) | ⟨h1, hn⟩
    · exact .inl (.inl fun d hd => hk d (pe.mem_iff.mp hd))
    · exact .inl (.inr fun d hd => hk d (pe.mem_iff.mp hd))
    · exact .inr ⟨by rw [pe.length_eq]; exact h1, fun d hd => hn d (pe.mem_iff.mp hd)⟩
  refine wpAny_bind (wpAny_holding (wpAny_call_entry slot_list_sort ⟨_, hoL, rfl⟩ entry_list_sort (W.list_sort_vals (s := { s1 with heap := s1.heap.push (seqObj "list" (L1.map fun q => Value.ref q.1).toArray 0) }) (κ := W.dataKind (W.sortingHeap (s1.heap.push (seqObj "list" (L1.map fun q => Value.ref q.1).toArray 0)) s1.heap.objs.size (L1.map fun q => Value.ref q.1)) (L1.map enc)) hoL (sortsN (s := { s1 with heap := W.sortingHeap (s1.heap.push (seqObj "list" (L1.map fun q => Value.ref q.1).toArray 0)) s1.heap.objs.size (L1.map fun q => Value.ref q.1) }) (W.each_map (R := fun v d => ∃ as, Reads (W.sortingHeap (s1.heap.push (seqObj "list" (L1.map fun q => Value.ref q.1).toArray 0)) s1.heap.objs.size (L1.map fun q => Value.ref q.1)) v d as) enc er) hal1 hk1 fun d hd => ?_) (by rw [sizeLine_eq]; omega) ⟨_, rfl, ?_⟩) (args_list_sort _)))
  · obtain ⟨p, hp, rfl⟩ := List.mem_map.mp hd
    have := hu p (hs1 p hp)
    simp only [units_in1]
    omega
  have eo := each_refs (W.sortVals_data (R := fun v p => v = Value.ref p.1) (enc := enc) false (each_map_ref fun p _ => rfl) er hal1)
  generalize hout : (W.sortVals (W.dataKind (W.sortingHeap (s1.heap.push (seqObj "list" (L1.map fun q => Value.ref q.1).toArray 0)) s1.heap.objs.size (L1.map fun q => Value.ref q.1)) (L1.map enc)) false (L1.map fun q => Value.ref q.1) (L1.map fun q => Value.ref q.1)).toArray = out
  have eo2 : out.toList = (L1.mergeSort (W.dataLe false enc)).map fun p => Value.ref p.1 := by
    rw [← hout]
    exact eo
  obtain ⟨c, hc⟩ := sortedHeap_at (vs := L1.map fun q => Value.ref q.1) (out := out) hoL
  refine wpAny_pure ⟨_, rfl, hQ _ s1.heap.objs.size out c (L1.mergeSort (W.dataLe false enc)) (fun b u e => ?_) g1 o1 hz hc eo2 ((List.mergeSort_perm _ _).trans p1) (W.sort_pairwise (W.sortLe_total _ _ _) L1)⟩
  have q := k1 b u e
  have hlt := Heap.lt_size q
  show (sortedHeap (s1.heap.push (seqObj "list" (L1.map fun q => Value.ref q.1).toArray 0)) s1.heap.objs.size (L1.map fun q => Value.ref q.1) out).get? b = some u
  rw [sortedHeap_old (Nat.ne_of_lt hlt) (by rw [size_push']; exact Nat.lt_succ_of_lt hlt)]
  exact Heap.get?_push_of_some _ q
end
structure SetN0 (P : Program) (w : World) (h : Heap) (a : Addr) (L : List EnN) : Prop where
  ex : ∃ (es : Array (Int × Value)) (ep : Nat) (t : SetTable), (∃ o, h.get? a = some o ∧ o.ExactSet ∧ o.data = .set es ep t) ∧ es.toList = rowsN w L ∧ TabB t (L.map fun p => nhash w p.2) ∧ (L.map (·.2)).Nodup ∧
    (w.params.followText "set-order" = true ∨ t.led = true) ∧ L.length * 5 < t.mask * 3 ∧ L.length ≤ 300
def SetNO (P : Program) (w : World) (a : Addr) (L : List EnN) : HO := .ext fun h => SetN0 P w h a L
theorem SetNR.n0 {P : Program} {w : World} {h : Heap} {a : Addr} {L : List EnN} {es : Array (Int × Value)} {ep : Nat} {t : SetTable} (R : SetNR P w h a L es ep t) : SetN0 P w h a L :=
  ⟨es, ep, t, R.ob, R.rows, R.tab, R.nd, R.led, R.room, R.few⟩
theorem SetN0.full {P : Program} {w : World} {h : Heap} {a : Addr} {L : List EnN} (R : SetN0 P w h a L) (ht : ∀ p ∈ L, IsN P w h p.2 p.1) : ∃ es ep t, SetNR P w h a L es ep t := by
  obtain ⟨es, ep, t, h1, h2, h3, h4, h6, h7, h8⟩ := R.ex
  exact ⟨es, ep, t, h1, h2, h3, h4, ht, h6, h7, h8⟩
theorem setNO_new {P : Program} {w : World} {H : Hp} {h : Heap} {a : Addr} {L : List EnN} (R : SetN0 P w h a L) : ObjOk P w H h a (SetNO P w a L) := by
  have ⟨es, ep, t, ⟨o, ho, r⟩, q⟩ := R.ex
  refine ⟨R, ⟨o, ho⟩, fun h1 h2 p k => ?_⟩
  have ⟨es', ep', t', ⟨o', ho', r'⟩, q'⟩ := SetN0.ex p
  exact ⟨es', ep', t', ⟨o', k o' ho', r'⟩, q'⟩
theorem refs_valsN : ∀ {ks : List EnN} {us : List Value}, Vals (ks.map fun p => V.ref p.1) us → us = ks.map fun p => Value.ref p.1
  | [], _, .nil => rfl
  | p :: ks, _, .cons r t => by
    cases r
    rw [refs_valsN t]
    rfl
theorem vals_refsN : ∀ (ks : List EnN), Vals (ks.map fun p => V.ref p.1) (ks.map fun p => Value.ref p.1)
  | [] => .nil
  | p :: ks => .cons rfl (vals_refsN ks)
section
variable {X : Cx}
def EnOk (K : PySem.W.Frag) (H : Hp) (p : EnN) : Prop := NIs K H p.2 (.ref p.1) ∧ p.2.depth ≤ 8
theorem EnOk.isN {pins : List (Addr × Obj)} {σ : L2.St} {H : Hp} {s : Shared} {p : EnN} (I : Inv X pins σ H s) (h : EnOk X.K H p) : IsN X.prog X.w s.heap p.2 p.1 := ⟨NIs.ok I _ _ _ h.1 rfl, h.2⟩
def rSetOfN (K : PySem.W.Frag) (P : Program) (w : World) : List V → Hp → VK → Prop := fun xs H Q => ∃ (l : Addr) (ks : List EnN) (Dk : List NestedKey), xs = [V.ref l] ∧ (SqL K H l (ks.map fun p => V.ref p.1) ∨ SqT K H l (ks.map fun p => V.ref p.1)) ∧ (∀ p ∈ ks, EnOk K H p) ∧ (∀ p ∈ ks, p.2 ∈ Dk) ∧ Dk.length ≤ 299 ∧
  ∀ a L, H a = none → (∀ p ∈ L, p ∈ ks) → (∀ p ∈ ks, p.2 ∈ L.map (·.2)) → (L.map (·.2)).Nodup → Q (.ref a) (upd H a (SetNO P w a L))
theorem cr_setOfN (hc : X.calm = true) (hu : X.A.units + 64 < cLine) : CallR X (.type "set") (rSetOfN X.K X.prog X.w) := by
  intro pins s σ H xs us Q I r h
  obtain ⟨l, ks, Dk, rfl, hl, hk, hD, hf, q⟩ := h
  rw [Vals.ref1 r]
  have hn : H s.heap.objs.size = none := I.hok.fresh (Nat.le_refl _)
  have fin : ∀ (h' : Heap) (tk : Nat) (L : List EnN) (es : Array (Int × Value)) (ep : Nat) (t : SetTable), SetNR X.prog X.w h' s.heap.objs.size L es ep t → GotN ks ks.length L → (∀ b o, s.heap.get? b = some o → h'.get? b = some o) → EP X pins σ Q (.ref s.heap.objs.size) { s with heap := h', toks := tk } := fun h' tk L es ep t R g k => by
    refine ⟨.ref s.heap.objs.size, upd H s.heap.objs.size (SetNO X.prog X.w s.heap.objs.size L), I.laid (t' := tk) k (Nat.le_refl _) (setNO_new R.n0), rfl, q _ L hn (fun p hp => ?_) (fun p hp => ?_) R.nd⟩
    · exact List.mem_of_mem_take (g.sub p hp)
    · exact g.all p (by rw [List.take_length]; exact hp)
  rcases hl with hl | hl
  · obtain ⟨its, rv, pl, hz⟩ := I.list hl
    exact call_set_keys (P := X.prog) (w := X.w) ks (I.ok.hd hc) pl.isList (by simpa using refs_valsN rv) (fun p hp => (hk p hp).isN I) hD hf (by omega) fin
  · obtain ⟨its, rv, pl, hz⟩ := I.tuple hl
    exact call_set_keysT (P := X.prog) (w := X.w) ks (I.ok.hd hc) (show s.heap.IsTuple l its.toArray from pl) (by simpa using refs_valsN rv) (fun p hp => (hk p hp).isN I) hD hf (by omega) fin
def rSortedN (K : PySem.W.Frag) (P : Program) (w : World) : List V → Hp → VK → Prop := fun vs H Q => ∃ (a : Addr) (L : List EnN) (enc : EnN → PyData), vs = [V.ref a] ∧ H a = some (SetNO P w a L) ∧ (∀ p ∈ L, EnOk K H p) ∧ (∀ p ∈ L, Dp K H (.ref p.1) (enc p) ∧ (enc p).depth ≤ 30) ∧
  W.AllAlike (L.map enc) ∧ SrtOk (L.map enc) ∧
  ∀ (L' : List EnN) (p : Addr), L'.Perm L → L'.Pairwise (fun q r => W.dataLe false enc q r = true) → H p = none → Q (.ref p) (upd H p (.lst (L'.map fun q => V.ref q.1)))
theorem cr_sortedN (hc : X.calm = true) (hu : X.A.units + 64 < cLine) : CallR X (.builtin "sorted") (rSortedN X.K X.prog X.w) := by
  intro pins s σ H vs us Q I r h
  obtain ⟨a, L, enc, rfl, ha, hk, hdp, hal, hso, q⟩ := h
  have R0 : SetN0 X.prog X.w s.heap a L := (I.hok a _ ha).1
  obtain ⟨es, ep, t, R⟩ := R0.full fun p hp => (hk p hp).isN I
  rw [Vals.ref1 r]
  refine sortedN R (I.ok.hd hc) enc (fun h' kp p hp => ?_) hal hso (fun p hp => by have := (hdp p hp).2; omega) fun s' p out c L' k g o hp hg hout pm pw => ?_
  · obtain ⟨as, r⟩ := Dp.reads I _ _ _ (hdp p hp).1 rfl
    exact ⟨as, PyProof.Rows.Reads.keeps kp r⟩
  have hfew : L'.length ≤ 300 := by rw [pm.length_eq]; exact R.few
  have hlen : (L'.map fun q => V.ref q.1).length ≤ sizeLine := by rw [List.length_map, sizeLine_eq]; omega
  have hn : H p = none := I.hok.fresh hp
  have hv : Vals (L'.map fun q => V.ref q.1) out.toList := by rw [hout]; exact vals_refsN L'
  have J : Inv X pins σ (upd H p (.lst (L'.map fun q => V.ref q.1))) { s with heap := s'.heap, gens := s'.gens, drawn := s'.drawn, toks := s'.toks } :=
    I.call (ch := []) (Un.laid k hp hn) (I.hok.laid k hp ⟨hlen, out.toList, c, hv, hg⟩) (by rw [g]; exact I.bare) (fun _ z => nomatch z)
  have e : s' = { s with heap := s'.heap, gens := s'.gens, drawn := s'.drawn, toks := s'.toks } := by
    cases s'
    cases s
    cases o
    rfl
  rw [e]
  exact ⟨.ref p, _, J, rfl, q L' p pm pw hn⟩
def rLenN (K : PySem.W.Frag) (P : Program) (w : World) : List V → Hp → VK → Prop := fun vs H Q => ∃ (a : Addr) (L : List EnN), vs = [V.ref a] ∧ H a = some (SetNO P w a L) ∧ (∀ p ∈ L, EnOk K H p) ∧ Q (.int (L.length : Nat)) H
theorem cr_lenN : CallR X (.builtin "len") (rLenN X.K X.prog X.w) := by
  intro pins s σ H vs us Q I r h
  obtain ⟨a, L, rfl, ha, hk, q⟩ := h
  have R0 : SetN0 X.prog X.w s.heap a L := (I.hok a _ ha).1
  obtain ⟨es, ep, t, R⟩ := R0.full fun p hp => (hk p hp).isN I
  obtain ⟨o, ho, hex, hd⟩ := R.ob
  have hsz := R.size
  have hfew := R.few
  rw [Vals.ref1 r]
  refine call_len_set ho hex hd R.fits (by omega) ⟨.int (L.length : Nat), H, I.tok _, ?_, q⟩
  exact ⟨_, by rw [hsz]⟩
end
end Bk
namespace Bk
open PySem PySem.Spec PyProof.Rows L2
variable [MF] [PWc]
structure Nm where
  fnm : Nat → Str
  gnm : Nat → Str
  enm : Nat → Str
  fps : Nat → List Str
  fs : List Nat
  gs : List Nat
  es : List Nat
  ks : List Nat
  /-- the answer-teller stands in the text; a lambda may stand in this def -/
  rs : Bool := false
  lm : Bool := false
  /-- the methods: their classes, their numbers; the __init__ defs, their classes -/
  mc : List (Nat × Nat) := []
  mi : List Nat := []
  ic : Nat → Nat := fun _ => 0
  /-- the __init__ defs whose objects stay the caller's own; the methods with effects; the classes with an own == -/
  mj : List Nat := []
  mw : List (Nat × Nat) := []
  oc : List Nat := []
def vis (sc : Scope) (x : Str) : Bool := match sc.names.lookup x with
  | some .local => true | some .cell => true | some .free => true | _ => false
def glb (sc : Scope) (x : Str) : Bool := match sc.names.lookup x with
  | some .globalImplicit => true | _ => false
def loc1 (sc : Scope) (top : Bool) (x : Str) : Bool := match sc.names.lookup x with
  | some .local => true | some .cell => top | _ => false
def nodbg (x : Str) : Bool := !(x == ("__debug__" : Str)) && !(x == ("__classdict__" : Str)) && !(x == ("__name__" : Str))
def notSt : PySem.Expr → Bool
  | .Starred .. => false
  | _ => true
def notSet : PySem.Expr → Bool
  | .Set .. => false
  | _ => true
def notCmp : PySem.Expr → Bool
  | .ListComp .. => false | .SetComp .. => false | .DictComp .. => false
  | _ => true
def notSlc : PySem.Expr → Bool
  | .Slice .. => false
  | _ => true
def notTup : PySem.Expr → Bool
  | .Tuple vs _ _ => vs.all (foldedForSure 8)
  | _ => true
def plT : PySem.Expr → Bool
  | .BoolOp .. => false | .IfExp .. => false | .Compare .. => false | .UnaryOp .. => false
  | _ => true
def notCall : PySem.Expr → Bool
  | .Call .. => false
  | _ => true
def isCm : Ex → Bool
  | .cmp .. => true | .chn .. => true | .oeq .. => true | .din .. => true
  | _ => false
def mC : D → Const → Bool
  | .non, .none => true
  | .bl b, .bool c => b == c
  | .int i, .int j => decide (i = j)
  | .str s, .str z => decide (s = z.cps.toList)
  | _, _ => false
def mBop : Bop → Operator → Bool
  | .add, .Add => true | .sub, .Sub => true | .mul, .Mult => true | .fdiv, .FloorDiv => true | .mod, .Mod => true | .pow, .Pow => true
  | _, _ => false
def mCop : Cop → CmpOp → Bool
  | .eq, .Eq => true | .ne, .NotEq => true | .lt, .Lt => true | .le, .LtE => true | .gt, .Gt => true | .ge, .GtE => true
  | .is, .Is => true | .isn, .IsNot => true | .isin, .In => true | .nin, .NotIn => true
  | _, _ => false
def bltS : Blt → Str
  | .len => "len" | .min => "min" | .max => "max" | .sum => "sum" | .all => "all" | .any => "any" | .tuple => "tuple" | .list => "list" | .abs => "abs" | .str => "str" | .int => "int"
def mthS : Mth → Str
  | .join => "join" | .split => "split" | .count => "count"
mutual
def mTg (N : List Str) (sc : Scope) (top : Bool) : Tg → PySem.Expr → Bool
  | .nm i, e => match e with
    | .Name x _ => decide (N[i]? = some x) && loc1 sc top x
    | _ => false
  | .tp ts, e => match e with
    | .Tuple es _ _ => mTgs N sc top ts es
    | _ => false
def mTgs (N : List Str) (sc : Scope) (top : Bool) : List Tg → List PySem.Expr → Bool
  | [], [] => true
  | t :: ts, e :: es => notSt e && mTg N sc top t e && mTgs N sc top ts es
  | _, _ => false
end
def ownN (N : List Str) : List Nat → List (Str × Nat)
  | [] => []
  | i :: r => (N.getD i "", i) :: ownN N r
def noPar (a : Arguments) : Bool := a.posonlyargs.isEmpty && a.args.isEmpty && a.vararg.isNone && a.kwonlyargs.isEmpty && a.kw_defaults.isEmpty && a.kwarg.isNone && a.defaults.isEmpty
mutual
def mE (G : Nm) (N : List Str) : Ex → Scope → PySem.Expr → Bool
  | .var i, sc, e => match e with
    | .Name x _ => decide (N[i]? = some x) && vis sc x && nodbg x
    | _ => false
  | .cst d, _, e => match e with
    | .Constant c _ _ => mC d c
    | _ => false
  | .glo g, sc, e => match e with
    | .Name x _ => decide (g ∈ G.gs) && decide (G.gnm g = x) && glb sc x && nodbg x
    | _ => false
  | .tup es, sc, e => match e with
    | .Tuple xs _ _ => mEs G N es sc xs
    | _ => false
  | .lst es, sc, e => match e with
    | .List xs _ => mEs G N es sc xs
    | _ => false
  | .bop o a b, sc, e => match e with
    | .BinOp l op r _ => mBop o op && mE G N a sc l && mE G N b sc r
    | _ => false
  | .neg a, sc, e => match e with
    | .UnaryOp .USub x _ => mE G N a sc x
    | _ => false
  | .cmp o a b, sc, e => match e with
    | .Compare l [op] [r] _ => mCop o op && notSet r && mE G N a sc l && mE G N b sc r
    | _ => false
  | .chn o p a b c, sc, e => match e with
    | .Compare l [op, op'] [r, r'] _ => mCop o op && mCop p op' && notSet r && notSet r' && mE G N a sc l && mE G N b sc r && mE G N c sc r'
    | _ => false
  | .and a b, sc, e => match e with
    | .BoolOp .And (l :: r :: rest) pos => mE G N a sc l && (match rest with
      | [] => mE G N b sc r
      | _ :: _ => mE G N b sc (.BoolOp .And (r :: rest) pos))
    | _ => false
  | .or a b, sc, e => match e with
    | .BoolOp .Or (l :: r :: rest) pos => mE G N a sc l && (match rest with
      | [] => mE G N b sc r
      | _ :: _ => mE G N b sc (.BoolOp .Or (r :: rest) pos))
    | _ => false
  | .not a, sc, e => match e with
    | .UnaryOp .Not x _ => mE G N a sc x
    | _ => false
  | .ite c a b, sc, e => match e with
    | .IfExp t x y _ => mT G N c sc t && mE G N a sc x && mE G N b sc y
    | _ => false
  | .sub a i, sc, e => match e with
    | .Subscript x s _ => notSlc s && mE G N a sc x && mE G N i sc s
    | _ => false
  | .slc a lo hi, sc, e => match e with
    | .Subscript x (.Slice l u none _) _ => mE G N a sc x && mO G N lo sc l && mO G N hi sc u
    | _ => false
  | .cal f es, sc, e => match e with
    | .Call (.Name x _) xs [] _ => decide (f ∈ G.fs) && decide (G.fnm f = x) && glb sc x && nodbg x && decide ((G.fps f).length = xs.length) && mEs G N es sc xs
    | _ => false
  | .cak f es ks, sc, e => match e with
    | .Call (.Name x _) xs kws _ => decide (f ∈ G.fs) && decide (G.fnm f = x) && glb sc x && nodbg x && decide (kws.map (·.arg) = ((G.fps f).drop xs.length).map some) && decide ((G.fps f).length = xs.length + kws.length) && decide (f ∈ G.ks) && mEs G N es sc xs && mKs G N ks sc kws
    | _ => false
  | .blt b es, sc, e => match e with
    | .Call (.Name x _) (y :: xs) [] _ => decide (bltS b = x) && glb sc x && mEs G N es sc (y :: xs)
    | _ => false
  | .mth m o a, sc, e => match e with
    | .Call (.Attribute x k ap) [y] [] p => decide (mthS m = k) && (ap.endLine == p.line) && notSt y && plT x && notCall x && mE G N o sc x && mE G N a sc y
    | _ => false
  | .sst a, sc, e => match e with
    | .Call (.Name x _) [.Call (.Name z _) [y] [] _] [] _ => decide (x = "sorted") && glb sc x && decide (z = "set") && glb sc z && notSt y && mE G N a sc y
    | _ => false
  | .lns a, sc, e => match e with
    | .Call (.Name x _) [.Call (.Name z _) [y] [] _] [] _ => decide (x = "len") && glb sc x && decide (z = "set") && glb sc z && notSt y && mE G N a sc y
    | _ => false
  | .res x, sc, e => match e with
    | .Call (.Name f _) [.Lambda ps bd lsc _] [] _ => G.rs && G.lm && decide (f = "_law_result") && glb sc f && noPar ps && LamX.lamSB sc lsc && mE { G with lm := false } N x lsc bd
    | _ => false
  | .isi t a, sc, e => match e with
    | .Call (.Name x _) [y, .Name z _] [] _ => decide (x = "isinstance") && glb sc x && decide (z = ityS t) && glb sc z && notSt y && mE G N a sc y
    | _ => false
  | .dl3 k1 k2 k3 a b c i, sc, e => match e with
    | .Subscript (.Dict [some (.Constant (.str z1) _ _), some (.Constant (.str z2) _ _), some (.Constant (.str z3) _ _)] [va, vb, vc] _) s _ => decide (z1 = ⟨k1.toArray⟩) && decide (z2 = ⟨k2.toArray⟩) && decide (z3 = ⟨k3.toArray⟩) && decide (k1 ≠ k2) && decide (k1 ≠ k3) && decide (k2 ≠ k3) && notSlc s && mE G N a sc va && mE G N b sc vb && mE G N c sc vc && mE G N i sc s
    | _ => false
  | .fld a f, sc, e => match e with
    | .Attribute x nm _ => decide (fln f = nm) && notCall x && mE G N a sc x
    | _ => false
  | .cam _ ms o es, sc, e => match e with
    | .Call (.Attribute x nm ap) xs [] p => (ms.all fun q => decide (q ∈ G.mc) && decide (G.fnm q.2 = nm) && decide ((G.fps q.2).length = xs.length + 1) && decide (nm ∉ clN q.1)) && (ap.endLine == p.line) && notCall x && decide (xs.length < 20) && mE G N o sc x && mEs G N es sc xs
    | _ => false
  | .mak f es, sc, e => match e with
    | .Call (.Name x _) (y :: xs) [] _ => decide (f ∈ G.mi) && decide (G.fnm f = x) && glb sc x && nodbg x && decide ((G.fps f).length = xs.length + 2) && mEs G N es sc (y :: xs)
    | _ => false
  | .oln ms o, sc, e => match e with
    | .Call (.Name x _) [y] [] _ => (ms.all fun q => decide (q ∈ G.mc) && decide (G.fnm q.2 = "__len__") && decide ((G.fps q.2).length = 1)) && decide (x = "len") && glb sc x && notSt y && mE G N o sc y
    | _ => false
  | .oeq ng ms a b, sc, e => match e with
    | .Compare x [op] [y] _ => (ms.all fun q => decide (q ∈ G.mc) && decide (G.fnm q.2 = "__eq__") && decide ((G.fps q.2).length = 2) && decide (q.1 ∈ G.oc)) && mCop (if ng then .ne else .eq) op && mE G N a sc x && mE G N b sc y
    | _ => false
  | .iso c a, sc, e => match e with
    | .Call (.Name x _) [y, .Name z _] [] _ => decide (c ∈ G.oc) && decide (x = "isinstance") && glb sc x && decide (z = cnm c) && glb sc z && nodbg z && notSt y && mE G N a sc y
    | _ => false
  | .dgi x k, sc, e => match e with
    | .Subscript y s _ => notSlc s && mE G N x sc y && mE G N k sc s
    | _ => false
  | .din ng k x, sc, e => match e with
    | .Compare l [op] [r] _ => mCop (if ng then .nin else .isin) op && notSet r && mE G N k sc l && mE G N x sc r
    | _ => false
  | .dgt x k d, sc, e => match e with
    | .Call (.Attribute o nm ap) [y, z] [] p => decide (nm = "get") && (ap.endLine == p.line) && notSt y && notSt z && notCall o && mE G N x sc o && mE G N k sc y && mE G N d sc z
    | _ => false
  | .srk x, sc, e => match e with
    | .Call (.Name f _) [y] [] _ => decide (f = "sorted") && glb sc f && notSt y && mE G N x sc y
    | _ => false
  | .lsk x, sc, e => match e with
    | .Call (.Name f _) [y] [] _ => decide (f = "list") && glb sc f && notSt y && mE G N x sc y
    | _ => false
  | .dcl x, sc, e => match e with
    | .Call (.Name f _) [y] [] _ => decide (f = "dict") && glb sc f && notSt y && mE G N x sc y
    | _ => false
  | .cmp1 elt tg it own, sc, e => match e with
    | .ListComp x [⟨t, iter, [], 0⟩] scope _ => blkC N sc scope (ownN N own) && ((tgS tg).all fun i => decide (i ∈ own)) && notSet iter && mTg N (relS scope sc) false tg t && mI G N it sc t iter && mE G N elt (relS scope sc) x
    | _ => false
  | .cmpc elt tg it c own, sc, e => match e with
    | .ListComp x [⟨t, iter, [cd], 0⟩] scope _ => blkC N sc scope (ownN N own) && ((tgS tg).all fun i => decide (i ∈ own)) && notSet iter && mTg N (relS scope sc) false tg t && mI G N it sc t iter && mT G N c (relS scope sc) cd && mE G N elt (relS scope sc) x
    | _ => false
def mEs (G : Nm) (N : List Str) : Exs → Scope → List PySem.Expr → Bool
  | .nil, _, xs => match xs with
    | [] => true
    | _ => false
  | .cons e es, sc, xs => match xs with
    | x :: r => notSt x && mE G N e sc x && mEs G N es sc r
    | _ => false
def mKs (G : Nm) (N : List Str) : Exs → Scope → List Keyword → Bool
  | .nil, _, xs => match xs with
    | [] => true
    | _ => false
  | .cons e es, sc, xs => match xs with
    | x :: r => x.arg.isSome && mE G N e sc x.value && mKs G N es sc r
    | _ => false
def mO (G : Nm) (N : List Str) : Ox → Scope → Option PySem.Expr → Bool
  | .no, _, x => match x with
    | none => true
    | _ => false
  | .so e, sc, x => match x with
    | some y => mE G N e sc y
    | _ => false
def mT (G : Nm) (N : List Str) : Tx → Scope → PySem.Expr → Bool
  | .val a, sc, e => (isCm a || plT e) && mE G N a sc e
  | .and a b, sc, e => match e with
    | .BoolOp .And (l :: r :: rest) pos => mT G N a sc l && (match rest with
      | [] => mT G N b sc r
      | _ :: _ => mT G N b sc (.BoolOp .And (r :: rest) pos))
    | _ => false
  | .or a b, sc, e => match e with
    | .BoolOp .Or (l :: r :: rest) pos => mT G N a sc l && (match rest with
      | [] => mT G N b sc r
      | _ :: _ => mT G N b sc (.BoolOp .Or (r :: rest) pos))
    | _ => false
  | .not a, sc, e => match e with
    | .UnaryOp .Not x _ => mT G N a sc x
    | _ => false
def mI (G : Nm) (N : List Str) : Ix → Scope → PySem.Expr → PySem.Expr → Bool
  | .seq a, sc, _, e => mE G N a sc e
  | .own i, sc, _, e => match e with
    | .Name x _ => decide (N[i]? = some x) && vis sc x && nodbg x
    | _ => false
  | .enm a, sc, t, e => match t with
    | .Tuple _ _ _ => match e with
      | .Call (.Name x _) [y] [] _ => decide (x = "enumerate") && glb sc x && notSt y && mE G N a sc y
      | _ => false
    | _ => false
  | .dky a, sc, _, e => mE G N a sc e
  | .zip a b, sc, t, e => match t with
    | .Tuple _ _ _ => match e with
      | .Call (.Name x _) [y, z] [] _ => decide (x = "zip") && glb sc x && notSt y && notSt z && mE G N a sc y && mE G N b sc z
      | _ => false
    | _ => false
  | .rg1 a, sc, _, e => match e with
    | .Call (.Name x _) [y] [] _ => decide (x = "range") && glb sc x && notSt y && mE G N a sc y
    | _ => false
  | .rg2 a b, sc, _, e => match e with
    | .Call (.Name x _) [y, z] [] _ => decide (x = "range") && glb sc x && notSt y && notSt z && mE G N a sc y && mE G N b sc z
    | _ => false
  | .rg3 a b c, sc, _, e => match e with
    | .Call (.Name x _) [y, z, u] [] _ => decide (x = "range") && glb sc x && notSt y && notSt z && notSt u && mE G N a sc y && mE G N b sc z && mE G N c sc u
    | _ => false
end
theorem star_cons {e : PySem.Expr} {es : List PySem.Expr} {env : Env} (h : notSt e = true) : starEach (e :: es) env = (false, eval e env) :: starEach es env := by
  cases e <;> first | rfl | (simp [notSt] at h)
theorem star_any {pos : Pos} {env : Env} : ∀ {es : List PySem.Expr}, es.all notSt = true → (backTo pos (starEach es env)).any (·.1) = false
  | [], _ => rfl
  | e :: es, h => by
    rw [List.all_cons, Bool.and_eq_true] at h
    rw [star_cons h.1]
    show ((false : Bool) || (backTo pos (starEach es env)).any (·.1)) = false
    rw [star_any h.2]; rfl
theorem isTrue_pl {e : PySem.Expr} {env : Env} (h : plT e = true) : ∀ whole, isTrue e env whole = (do let v ← whole; standAt e.pos; holding [v] (truthy v)) := by
  cases e <;> first | (intro _; rfl) | (simp [plT] at h)
theorem nomarkS {e : PySem.Expr} {op : CmpOp} (h : notSet e = true) : behindInMarks op e = false := by
  cases e <;> first | rfl | (simp [notSet] at h)
theorem folded {e : PySem.Expr} {env : Env} (h : notSet e = true) : ∀ x, foldedSetIterable e env x = pure x := by
  cases e <;> first | (intro _; rfl) | (simp [notSet] at h)
theorem swaps_no {e : PySem.Expr} {t : Option PySem.Expr} {l : Nat} {env : Env} (h : notCmp e = true) : swapsWith e t l env = pure false := by
  cases e <;> first | rfl | (simp [notCmp] at h)
theorem swapSole_no {e t : PySem.Expr} {l : Nat} {env : Env} (h : notCmp e = true) : swapsWithSole [t] e l env = pure false := swaps_no h
theorem swapped_no {e : PySem.Expr} {ts : List PySem.Expr} {k : Nat} {p : Pos} {env : Env} (h : notTup e = true) : swappedStores [.Tuple ts k p] e env = pure none := by
  cases e with
  | Tuple vs k2 p2 =>
    have h : vs.all (foldedForSure 8) = true := h
    unfold swappedStores
    simp only [pure_bind]
    split
    · rfl
    · split
      · rfl
      · split
        · rfl
        · first | rfl | (rw [if_pos h])
  | _ => rfl
theorem plainIx {e : PySem.Expr} (h : notSlc e = true) : PlainIx e := by
  intro o i
  cases e <;> first | rfl | (simp [notSlc] at h)
theorem attrBase {e : PySem.Expr} {m : Str} {env : Env} (h : notCall e = true) : attributeBase e m env (eval e env) = eval e env := by
  cases e <;> first | rfl | (simp [notCall] at h)
theorem meth_ht {o : PySem.Expr} {m : Str} {apos pos : Pos} {args : List PySem.Expr} {env : Env} (hb : notCall o = true) (hl : (apos.endLine == pos.line) = true) (hs : args.all notSt = true) (hn : args.length < 20) :
    eval (.Call (.Attribute o m apos) args [] pos) env = (do
      let ov ← eval o env
      standAt apos.atName
      let (f, first) ← holding [ov] (getMethod ov m (do return (← importBound o env).getD true))
      callWith pos f first (backTo pos (starEach args env)) (backToKw pos (keywordEach [] env))) := by
  have h1 : methodCallForm (args.length + ([] : List Keyword).length) (backTo pos (starEach args env)) (backToKw pos (keywordEach [] env)) = true := by
    have ha := star_any (pos := pos) (env := env) hs
    unfold methodCallForm
    have hb : (backTo pos (starEach args env)).all (fun x => !x.1) = true := by
      rw [List.all_eq_true]
      intro x hx
      have := List.any_eq_false.mp ha x hx
      simpa using this
    rw [hb]
    simp only [Bool.true_and]
    show (true && decide (args.length + 0 + 0 < 30)) = true
    rw [decide_eq_true (by omega)]
    rfl
  rw [arm_eval_Call, attrBase hb]
  unfold methodCall
  rw [h1]
  unfold calleeOf methodCallPos
  rw [hl]
  rfl
theorem mC_ok {d : D} {c : Const} (h : mC d c = true) : (d = .non ∧ c = .none) ∨ (∃ b, d = .bl b ∧ c = .bool b) ∨ (∃ i, d = .int i ∧ c = .int i) ∨ (∃ s z, d = .str s ∧ c = .str z ∧ z = ⟨s.toArray⟩) := by
  unfold mC at h
  split at h
  · exact .inl ⟨rfl, rfl⟩
  · exact .inr (.inl ⟨_, rfl, by rw [eq_of_beq h]⟩)
  · exact .inr (.inr (.inl ⟨_, rfl, by rw [of_decide_eq_true h]⟩))
  · exact .inr (.inr (.inr ⟨_, _, rfl, rfl, by rw [of_decide_eq_true h]⟩))
  · cases h
theorem nodbg_ok {x : Str} (h : nodbg x = true) : (x == ("__debug__" : Str)) = false ∧ (x == ("__classdict__" : Str)) = false ∧ x ≠ "__name__" := by
  unfold nodbg at h
  simp only [Bool.and_eq_true, Bool.not_eq_true'] at h
  exact ⟨h.1.1, h.1.2, by simpa using h.2⟩
theorem vis_ok {sc : Scope} {x : Str} (h : vis sc x = true) : Vis sc x := by
  unfold vis at h
  split at h
  · exact .inl ‹_›
  · exact .inr (.inl ‹_›)
  · exact .inr (.inr ‹_›)
  · cases h
theorem glb_ok {sc : Scope} {x : Str} (h : glb sc x = true) : sc.names.lookup x = some .globalImplicit := by
  unfold glb at h
  split at h
  · assumption
  · cases h
end Bk
namespace Bk
open PySem PySem.Spec PyProof.Rows L2
def xcB (K : PySem.W.Frag) (C : Addr) : Bool := decide (PySem.W.findIn K (.ref C) "__getattribute__" = some (some (.builtin "BaseException.__getattribute__"))) && (PySem.W.findIn K (.ref C) "__getattr__").isSome && decide (PySem.W.subIn K (.ref C) (.type "BaseException") = some true) && (PySem.W.clsIn K C).isSome &&
  decide (PySem.W.findIn K (.ref C) "__class__" = some (some (.builtin "object.__class__"))) && decide (PySem.W.specialIn K (.builtin "object.__class__") "__get__" = some (some (.builtin "getset_descriptor.__get__"))) && decide (PySem.W.takesIn K (.builtin "object.__class__") = some true) && decide (PySem.W.mroIn K C (.type "object") = some true)
end Bk
namespace Bk
open PySem PySem.Spec PyProof.Rows L2
variable [MF] [PWc]
abbrev resN : List Str := ["call", "caught", "answer", "e", "some", "names", "name"]
abbrev resC : List (Str × Str) := [("rule", "InvalidWay"), ("rules", "InvalidWays"), ("line", "InvalidText"), ("spot", "InvalidPlace"), ("words", "InvalidTokens"), ("sizes", "InvalidLengths"), ("side", "InvalidSight"), ("count", "InvalidNumber"), ("sign", "InvalidLetter"), ("script", "InvalidLine"), ("unsure", "NeverSure"), ("alike", "Alike"), ("none", "NotWritten"), ("much", "TooMany"), ("over", "Ended"), ("undo", "NothingToUndo")]
def resSc : Scope := { kind := .function, names := [("call", .local), ("caught", .local), ("answer", .local), ("e", .local), ("some", .cell), ("names", .local), ("CopyError", .globalImplicit), ("isinstance", .globalImplicit), ("InvalidWay", .globalImplicit), ("InvalidWays", .globalImplicit), ("InvalidText", .globalImplicit), ("InvalidPlace", .globalImplicit), ("InvalidTokens", .globalImplicit), ("InvalidLengths", .globalImplicit), ("InvalidSight", .globalImplicit), ("InvalidNumber", .globalImplicit), ("InvalidLetter", .globalImplicit), ("InvalidLine", .globalImplicit), ("NeverSure", .globalImplicit), ("Alike", .globalImplicit), ("NotWritten", .globalImplicit), ("TooMany", .globalImplicit), ("Ended", .globalImplicit), ("NothingToUndo", .globalImplicit), ("len", .globalImplicit), ("ValueError", .globalImplicit)], isGenerator := false, isCoroutine := false, more := [("fast", .str "call"), ("fast", .str "caught"), ("fast", .str "answer"), ("fast", .str "e"), ("fast", .str "some"), ("fast", .str "name"), ("fast", .str "names")] }
def resB (K : PySem.W.Frag) (i : Nat) : Bool := match resC[i]? with
  | some (_, cn) => ((List.range 16).all fun j => match resC[j]? with
      | some (_, dn) => decide (PySem.W.kitOne K (.ref (He.ga K cn)) (.ref (He.ga K dn)) = some (decide (i = j)))
      | none => false) && xcB K (He.ga K cn) && decide (PySem.W.exmOne K (.ref (He.ga K cn)) (.ref (He.ga K "CopyError")) = some true) && decide (PySem.W.kitOne K (.ref (He.ga K cn)) (.type "ValueError") = some true)
  | none => false
def RxE (K : PySem.W.Frag) (Q : VK) : XK := fun cls d H' => ∃ i nm cn, resC[i]? = some (nm, cn) ∧ cls = .ref (He.ga K cn) ∧ d = none ∧ resB K i = true ∧ ∀ H'' p, (∀ b o, H' b = some o → H'' b = some o) → H' p = none → H'' p = some (.tup [.str nm]) → Q (.ref p) H''
def RxQ (Q : VK) : VK := fun v H' => ∀ p, H' p = none → Q (.ref p) (upd H' p (.tup [.str "returns", v]))
def TRes (K : PySem.W.Frag) : (XK → Hp → VK → Prop) → Hp → VK → Prop := fun tl H Q => ∀ H1 : Hp, (∀ b o, H b = some o → H1 b = some o) → ∀ (E' : XK) (Q' : VK), (∀ cls d H', RxE K Q cls d H' → E' cls d H') → (∀ v H', RxQ Q v H' → Q' v H') → tl E' H1 Q'
end Bk
namespace Bk
open PySem PySem.Spec PyProof.Rows L2
variable [MF] [PWc]
def exE (mg : Str → Option Value) (G : Nm) (E : XK) (c : Nat) (H : Hp) : Prop := ∀ C, mg (G.enm c) = some (.ref C) → E (.ref C) none H
def Po {β : Type} (K : PySem.W.Frag) (mg : Str → Option Value) (G : Nm) (S : Sg) (H : Hp) (h : Hq) (q : Sg → Hp → β → Prop) (E : XK) : Rx β → Prop
  | .ok x => ∀ S' H', Ext S H S' H' → RelH K S' H' h → q S' H' x
  | .ex c => ∀ S' H', Ext S H S' H' → RelH K S' H' h → exE mg G E c H'
theorem Po.up {β : Type} {K : PySem.W.Frag} {mg : Str → Option Value} {G : Nm} {S S1 : Sg} {H H1 : Hp} {h : Hq} {q : Sg → Hp → β → Prop} {E : XK} (x : Ext S H S1 H1) : ∀ r : Rx β, Po K mg G S H h q E r → Po K mg G S1 H1 h q E r
  | .ok a, p => fun S' H' x' r' => p S' H' (x.trans x') r'
  | .ex c, p => fun S' H' x' r' => p S' H' (x.trans x') r'
def qV (K : PySem.W.Frag) (Q : VK) : Sg → Hp → Vv → Prop := fun S H x => ∀ v, RW K S H x v → Q v H
def qVs (K : PySem.W.Frag) (Q : List V → Hp → Prop) : Sg → Hp → List Vv → Prop := fun S H x => ∀ vs, RWs K S H x vs → Q vs H
def qB {β : Type} (Q : β → Hp → Prop) : Sg → Hp → β → Prop := fun _ H x => Q x H
def PoC (K : PySem.W.Frag) (mg : Str → Option Value) (G : Nm) (S : Sg) (H : Hp) (Q : VK) (E : XK) : Rx D → Prop
  | .ok d => ∀ S' v H', Ext S H S' H' → S'.as = [] → RelH K S' H' [] → RV K S' H' d v → Q v H'
  | .ex c => ∀ S' H', Ext S H S' H' → S'.as = [] → RelH K S' H' [] → exE mg G E c H'
def spC (K : PySem.W.Frag) (mg : Str → Option Value) (G : Nm) (cl : Cl) (f : Nat) : Sp := fun vs H Q E => vs.length = (G.fps f).length ∧ ∃ S ds, S.as = [] ∧ RelH K S H [] ∧ RVs K S H ds vs ∧ (cl f ds).All (PoC K mg G S H Q E)
def PoI (K : PySem.W.Frag) (mg : Str → Option Value) (G : Nm) (S : Sg) (H : Hp) (x : Addr) (Q : VK) (E : XK) : Rx D → Prop
  | .ok d => ∀ S' H', Ext S H S' H' → S'.as = [] → RelH K S' H' [] → RV K S' H' d (.ref x) → Q .non H'
  | .ex c => ∀ S' H', Ext S H S' H' → S'.as = [] → RelH K S' H' [] → exE mg G E c H'
def spI (K : PySem.W.Frag) (mg : Str → Option Value) (G : Nm) (cl : Cl) (f c : Nat) : Sp := fun vs H Q E => vs.length = (G.fps f).length ∧ ∃ (x dx : Addr) (ws : List V) (S : Sg) (ds : List D) (H0 : Hp), vs = .ref x :: ws ∧ H0 x = none ∧ H0 dx = none ∧ dx ≠ x ∧
  H = upd (upd H0 dx (.own x)) x (.ins (He.ga K (cnm c)) dx []) ∧ S.as = [] ∧ RelH K S H0 [] ∧ RVs K S H0 ds ws ∧ (cl f ds).All (PoI K mg G S H0 x Q E)
def PoJ (K : PySem.W.Frag) (mg : Str → Option Value) (G : Nm) (S : Sg) (H : Hp) (x : Addr) (Q : VK) (E : XK) : Rx D → Prop
  | .ok d => ∀ h1, decH d = some h1 → ∀ S' H', Ext S H S' H' → S'.as[0]? = some x → RelH K S' H' h1 → Q .non H'
  | .ex c => ∀ S' H', Ext S H S' H' → S'.as = [] → RelH K S' H' [] → exE mg G E c H'
def spJ (K : PySem.W.Frag) (mg : Str → Option Value) (G : Nm) (cl : Cl) (f c : Nat) : Sp := fun vs H Q E => vs.length = (G.fps f).length ∧ ∃ (x dx : Addr) (ws : List V) (S : Sg) (ds : List D) (H0 : Hp), vs = .ref x :: ws ∧ H0 x = none ∧ H0 dx = none ∧ dx ≠ x ∧
  H = upd (upd H0 dx (.own x)) x (.ins (He.ga K (cnm c)) dx []) ∧ S.as = [] ∧ RelH K S H0 [] ∧ RVs K S H0 ds ws ∧ (cl f ds).All (PoJ K mg G S H0 x Q E)
def PoM (K : PySem.W.Frag) (mg : Str → Option Value) (G : Nm) (S : Sg) (H : Hp) (h : Hq) (Q : VK) (E : XK) : Rx D → Prop
  | .ok d => ∀ p, decR d = some p → ∀ S' w H', Ext S H S' H' → RelH K S' H' p.2 → RW K S' H' p.1 w → Q w H'
  | .ex c => ∀ S' H', Ext S H S' H' → RelH K S' H' h → exE mg G E c H'
def spM (K : PySem.W.Frag) (mg : Str → Option Value) (G : Nm) (cl : Cl) (f : Nat) : Sp := fun vs H Q E => vs.length = (G.fps f).length ∧ ∃ S h vvs, RelH K S H h ∧ RWs K S H vvs vs ∧ (cl f (encH h :: vvs.map encV)).All (PoM K mg G S H h Q E)
def BK (K : PySem.W.Frag) (fd : FuncData) (ps : List Str) : Prop := ∀ (s : Shared) (us ws : List Value), K.In s.heap → (us ++ ws).length = ps.length → BindsTo s fd ⟨us, (ps.drop us.length).zip ws⟩ (ps.zip (us ++ ws))
structure OwnC (K : PySem.W.Frag) (mg : Str → Option Value) (c : Nat) : Prop where
  mgc : mg (cnm c) = some (.ref (He.ga K (cnm c)))
  ne : PySem.W.findIn K (.ref (He.ga K (cnm c))) "__ne__" = some (some (.builtin "object.__ne__"))
  ob : PySem.W.subIn K (.ref (He.ga K (cnm c))) (.type "object") = some true
  sb : PySem.W.subIn K (.type "str") (.ref (He.ga K (cnm c))) = some false
  c1 : PySem.W.findIn K (.ref (He.ga K (cnm c))) "__class__" = some (some (.builtin "object.__class__"))
  c2 : PySem.W.specialIn K (.builtin "object.__class__") "__get__" = some (some (.builtin "getset_descriptor.__get__"))
  c3 : PySem.W.takesIn K (.builtin "object.__class__") = some true
  c4 : PySem.W.mroIn K (He.ga K (cnm c)) (.type "object") = some true
  k1 : PySem.W.kitOne K (.ref (He.ga K (cnm c))) (.ref (He.ga K (cnm c))) = some true
  k2 : PySem.W.kitOne K (.type "str") (.ref (He.ga K (cnm c))) = some false
abbrev veTail : List Value := [.type "ValueError", .type "Exception", .type "BaseException", .type "object"]
abbrev bltN : List Str := ["len", "min", "max", "sum", "all", "any", "tuple", "list", "abs", "str", "int", "bool", "isinstance", "range", "enumerate", "zip", "sorted", "set", "dict"]
structure ResW (P : Program) (w : World) (K : PySem.W.Frag) (mg : Str → Option Value) (base : Heap) (G : Nm) : Prop where
  fn : ∃ (g : Addr) (oc : Value) (od : Option Addr) (pg : Arguments) (bg : List Stmt) (dV kV doc pm : Value) (an : Option Addr) (cdv ct : Value) (osl : Array (Option Value)), mg "_law_result" = some (.ref g) ∧ PySem.W.keepIn K (.ref g) = true ∧
    K.lookup g = some ⟨oc, od, .func (PySem.W.fnOf "_law_result" "_law_result" pg bg resSc dV kV doc pm an cdv ct), osl⟩ ∧ PySem.W.codeIn K cdv "_law_result" = true ∧ L2.Binds K (PySem.W.fnOf "_law_result" "_law_result" pg bg resSc dV kV doc pm an cdv ct) ["call"] [] ∧
    ∀ X : Cx, X.prog = P → X.w = w → X.K = K → X.mg = mg → X.base = base → (∀ e : Env, (X.A.deeper e).units + 1 < cLine) → ∀ q, LamX.GivesTo X resN "_law_result" resSc g cdv bg "call" q (TRes K)
  cls : ∀ c i s, exNm c = some (i, s) → ∀ C, mg (G.enm c) = some (.ref C) → ∃ nm : Str, resC[i]? = some (nm, G.enm c) ∧ nm = ⟨s.toArray⟩ ∧ C = He.ga K (G.enm c) ∧ resB K i = true
structure Wok (P : Program) (w : World) (K : PySem.W.Frag) (mg : Str → Option Value) (base : Heap) (k : Nat) (G : Nm) (gc : Gc) (cl : Cl) : Prop where
  blt : ∀ x ∈ bltN, mg x = none
  fn : ∀ f ∈ G.fs, ∃ (fa : Addr) (fd : FuncData), mg (G.fnm f) = some (.ref fa) ∧ PySem.W.keepIn K (.ref fa) = true ∧ Binds K fd (G.fps f) [] ∧
    (f ∈ G.ks → ∀ (s : Shared) (us ws : List Value), K.In s.heap → (us ++ ws).length = (G.fps f).length → BindsTo s fd ⟨us, ((G.fps f).drop us.length).zip ws⟩ ((G.fps f).zip (us ++ ws))) ∧
    FnOk P w K mg base (L2.CX P w) (4 * k) fa fd (G.fps f) (spC K mg G cl f)
  glo : ∀ g ∈ G.gs, ∃ a, mg (G.gnm g) = some (.ref a) ∧ ∀ S H, RV K S H (gc g) (.ref a)
  exc : ∀ c ∈ G.es, ∃ C, mg (G.enm c) = some (.ref C) ∧ PySem.W.excIn K C veTail "ValueError.__new__" = true ∧ PySem.W.keepIn K (.ref C) = true ∧ PySem.W.subIn K (.ref C) (.type "BaseException") = some true ∧ PySem.W.typeIn K (.ref C) = some (.type "type")
  res : G.rs = true → ResW P w K mg base G
  tab : ∀ x ∈ tdf K, LamX.TabB base mg (He.cT K (x, none)).1 (He.cT K (x, none)).2
  tun : ∀ p ∈ tbl K, ∀ q ∈ tbl K, p.1 = q.1 → p.2 = q.2
  met : ∀ q ∈ G.mc, ∃ (fa : Addr) (fd : FuncData), ClsK K q.1 ∧ Meth K (He.ga K (cnm q.1)) (G.fnm q.2) fa ∧ Binds K fd (G.fps q.2) [] ∧ FnOk P w K mg base (L2.CX P w) (4 * k) fa fd (G.fps q.2) (spC K mg G cl q.2)
  mks : ∀ f ∈ G.mi, ∃ (fa : Addr) (fd : FuncData), mg (G.fnm f) = some (.ref (He.ga K (cnm (G.ic f)))) ∧ ClsK K (G.ic f) ∧ Mk K (He.ga K (cnm (G.ic f))) fa ∧ Binds K fd (G.fps f) [] ∧ FnOk P w K mg base (L2.CX P w) (4 * k) fa fd (G.fps f) (spI K mg G cl f (G.ic f))
  mkj : ∀ f ∈ G.mj, ∃ (fa : Addr) (fd : FuncData), mg (G.fnm f) = some (.ref (He.ga K (cnm (G.ic f)))) ∧ ClsK K (G.ic f) ∧ Mk K (He.ga K (cnm (G.ic f))) fa ∧ Binds K fd (G.fps f) [] ∧ (f ∈ G.ks → BK K fd (G.fps f)) ∧ FnOk P w K mg base (L2.CX P w) (4 * k) fa fd (G.fps f) (spJ K mg G cl f (G.ic f))
  mew : ∀ q ∈ G.mw, ∃ (fa : Addr) (fd : FuncData), ClsK K q.1 ∧ Meth K (He.ga K (cnm q.1)) (G.fnm q.2) fa ∧ Binds K fd (G.fps q.2) [] ∧ (q.2 ∈ G.ks → BK K fd (G.fps q.2)) ∧ FnOk P w K mg base (L2.CX P w) (4 * k) fa fd (G.fps q.2) (spM K mg G cl q.2)
  ocs : ∀ c ∈ G.oc, OwnC K mg c
theorem Wok.lm {P : Program} {w : World} {K : PySem.W.Frag} {mg : Str → Option Value} {base : Heap} {k : Nat} {G : Nm} {gc : Gc} {cl : Cl} {b : Bool} (W : Wok P w K mg base k G gc cl) : Wok P w K mg base k { G with lm := b } gc cl :=
  ⟨W.blt, W.fn, W.glo, W.exc, fun h => ⟨(W.res h).fn, (W.res h).cls⟩, W.tab, W.tun, W.met, W.mks, W.mkj, W.mew, W.ocs⟩
theorem scB_res : FnScope resN ["call"] resSc := ⟨rfl, rfl, rfl, by decide +kernel, rfl, by decide +kernel, by decide +kernel⟩
structure Cok (X : Cx) (N : List Str) (sc : Scope) (top : Bool) (E : XK) (k : Nat) (G : Nm) (gc : Gc) (cl : Cl) : Prop where
  hN : X.N = N
  nd : N.Nodup
  hs : X.env.scope = sc
  calm : X.calm = true
  room : Room (4 * k + 1) X.A
  room2 : G.lm = true → Room (4 * k + 3) X.A
  pw : X.prog = PWc.P ∧ X.w = PWc.w
  lam : G.lm = true → ∃ c P, LamX.TabB X.base X.mg c P ∧ X.env.code = .ref c ∧ (P, X.env.qual ++ "<lambda>") ∈ tbl X.K
  tk : Takes X (fun cls d _ H => E cls d H)
  fn : top = true → ∀ x, X.fn x = true
  W : Wok X.prog X.w X.K X.mg X.base k G gc cl
section
variable (K : PySem.W.Frag) (mg : Str → Option Value) (G : Nm) (gc : Gc) (cl : Cl) (E : XK)
def tE (x : Ex) : TE := fun σ H Q => ∃ S e h, RelH K S H h ∧ RelE K S H e σ ∧ (evE gc cl x e h).All (Po K mg G S H h (qV K Q) E)
def tEs (x : Exs) : TA := fun σ H Q => ∃ S e h, RelH K S H h ∧ RelE K S H e σ ∧ (evEs gc cl x e h).All (Po K mg G S H h (qVs K Q) E)
def tT (x : Tx) : TT := fun σ H Q => ∃ S e h, RelH K S H h ∧ RelE K S H e σ ∧ (evT gc cl x e h).All (Po K mg G S H h (qB Q) E)
def tO (x : Ox) : TO := fun σ H Q => ∃ S e h, RelH K S H h ∧ RelE K S H e σ ∧ (evO gc cl x e h).All (Po K mg G S H h (qB Q) E)
end
section
variable {K : PySem.W.Frag} {mg : Str → Option Value} {G : Nm} {gc : Gc} {cl : Cl} {E : XK} {S : Sg} {H : Hp} {h : Hq} {e : En} {σ : L2.St} {β : Type} {q : Sg → Hp → β → Prop}
theorem bnd_all {α : Type} {m : M α} {f : α → M β} {P : Rx β → Prop} (hb : (bnd m f).All P) : m.All fun r => match r with
    | .ok a => (f a).All P
    | .ex c => P (.ex c) := by
  refine F.All.imp (fun r p => ?_) (F.All_bind.mp hb)
  cases r with
  | ok a => exact p
  | ex c => exact p
theorem stepE {x : Ex} {f : Vv → M β} {R : VK} (r : RelH K S H h) (re : RelE K S H e σ) (hb : (bnd (evE gc cl x e h) f).All (Po K mg G S H h q E))
    (k : ∀ a S1 H1 v, Ext S H S1 H1 → RelH K S1 H1 h → RelE K S1 H1 e σ → RW K S1 H1 a v → (f a).All (Po K mg G S1 H1 h q E) → R v H1) : tE K mg G gc cl E x σ H R := by
  refine ⟨S, e, h, r, re, F.All.imp (fun y p => ?_) (bnd_all hb)⟩
  cases y with
  | ok a => exact fun S' H' x' r' v rv => k a S' H' v x' r' (re.ext r x') rv (F.All.imp (fun z pz => pz.up x' z) p)
  | ex c => exact p
theorem stepEs {x : Exs} {f : List Vv → M β} {R : List V → Hp → Prop} (r : RelH K S H h) (re : RelE K S H e σ) (hb : (bnd (evEs gc cl x e h) f).All (Po K mg G S H h q E))
    (k : ∀ a S1 H1 v, Ext S H S1 H1 → RelH K S1 H1 h → RelE K S1 H1 e σ → RWs K S1 H1 a v → (f a).All (Po K mg G S1 H1 h q E) → R v H1) : tEs K mg G gc cl E x σ H R := by
  refine ⟨S, e, h, r, re, F.All.imp (fun y p => ?_) (bnd_all hb)⟩
  cases y with
  | ok a => exact fun S' H' x' r' v rv => k a S' H' v x' r' (re.ext r x') rv (F.All.imp (fun z pz => pz.up x' z) p)
  | ex c => exact p
theorem stepT {x : Tx} {f : Bool → M β} {R : Bool → Hp → Prop} (r : RelH K S H h) (re : RelE K S H e σ) (hb : (bnd (evT gc cl x e h) f).All (Po K mg G S H h q E))
    (k : ∀ a S1 H1, Ext S H S1 H1 → RelH K S1 H1 h → RelE K S1 H1 e σ → (f a).All (Po K mg G S1 H1 h q E) → R a H1) : tT K mg G gc cl E x σ H R := by
  refine ⟨S, e, h, r, re, F.All.imp (fun y p => ?_) (bnd_all hb)⟩
  cases y with
  | ok a => exact fun S' H' x' r' => k a S' H' x' r' (re.ext r x') (F.All.imp (fun z pz => pz.up x' z) p)
  | ex c => exact p
theorem stepO {x : Ox} {f : Option Int → M β} {R : Option Int → Hp → Prop} (r : RelH K S H h) (re : RelE K S H e σ) (hb : (bnd (evO gc cl x e h) f).All (Po K mg G S H h q E))
    (k : ∀ a S1 H1, Ext S H S1 H1 → RelH K S1 H1 h → RelE K S1 H1 e σ → (f a).All (Po K mg G S1 H1 h q E) → R a H1) : tO K mg G gc cl E x σ H R := by
  refine ⟨S, e, h, r, re, F.All.imp (fun y p => ?_) (bnd_all hb)⟩
  cases y with
  | ok a => exact fun S' H' x' r' => k a S' H' x' r' (re.ext r x') (F.All.imp (fun z pz => pz.up x' z) p)
  | ex c => exact p
theorem lfD_ok {o : Option D} {Q : VK} (hb : (lfD o).All (Po K mg G S H h (qV K Q) E)) : ∃ z, o = some z ∧ Dl K S H h z Q := by
  cases o with
  | none => exact hb.elim
  | some z => exact ⟨z, rfl, fun S' v H' x r rv => hb S' H' x r v rv⟩
theorem okD {z : D} {Q : VK} (hb : (ok (Vv.d z)).All (Po K mg G S H h (qV K Q) E)) : Dl K S H h z Q := fun S' v H' x r rv => hb S' H' x r v rv
theorem op2_ok {f : D → D → Option D} {a b : Vv} {v w : V} {Q : VK} (r : RelH K S H h) (ra : RW K S H a v) (rb : RW K S H b w) (hb : (op2 h f a b).All (Po K mg G S H h (qV K Q) E)) : rOp K f v w H Q := by
  unfold op2 at hb
  split at hb
  · rename_i p q e1 e2
    obtain ⟨z, e3, d⟩ := lfD_ok hb
    exact ⟨S, h, a, b, p, q, z, r, ra, rb, e1, e2, e3, d⟩
  · exact hb.elim
theorem dats_ok : ∀ {vs : List Vv} {ds : List D}, dats0 vs = some ds → ∀ {ws : List V}, RWs K S H vs ws → RVs K S H ds ws
  | [], ds, e, ws, q => by cases e; rw [show ws = [] from q]; exact .nil
  | .d x :: r, ds, e, ws, q => by
    simp only [dats0] at e
    obtain ⟨ds', e1, rfl⟩ := Option.map_eq_some_iff.mp e
    obtain ⟨v, t, rfl, q1, q2⟩ := q
    exact .cons q1 (dats_ok e1 q2)
  | .r n :: r, ds, e, ws, q => by simp [dats0] at e
theorem RWs.length : ∀ {vs : List Vv} {ws : List V}, RWs K S H vs ws → ws.length = vs.length
  | [], ws, q => by rw [show ws = [] from q]; rfl
  | v :: r, ws, q => by
    obtain ⟨v, t, rfl, q1, q2⟩ := q
    rw [List.length_cons, List.length_cons, RWs.length q2]
theorem RWs.append : ∀ {xs ys : List Vv} {vs ws : List V}, RWs K S H xs vs → RWs K S H ys ws → RWs K S H (xs ++ ys) (vs ++ ws)
  | [], ys, vs, ws, q, r => by rw [show vs = [] from q]; exact r
  | d :: ds, es, vs, ws, q, r => by
    obtain ⟨v, t, rfl, q1, q2⟩ := q
    exact ⟨v, t ++ ws, rfl, q1, RWs.append q2 r⟩
mutual
theorem RV.mono {S1 : Sg} (hf : ∀ a, S.fz a → S1.fz a) (hs : S1.sc = S.sc) (ht : ∀ t b, S.tw t b → S1.tw t b) (hm : ∀ d j o, S.mm d j o → S1.mm d j o) : ∀ (d : D) (v : V), RV K S H d v → RV K S1 H d v
  | .non, v, q => by unfold RV at q ⊢; exact q
  | .bl b, v, q => by unfold RV at q ⊢; exact q
  | .int i, v, q => by unfold RV at q ⊢; exact q
  | .str s, v, q => by unfold RV at q ⊢; exact q
  | .tup ds, v, q => by
    unfold RV at q ⊢
    obtain ⟨a, vs, e, t, q⟩ := q
    exact ⟨a, vs, e, t, RVs.mono hf hs ht hm ds vs q⟩
  | .lst ds, v, q => by
    unfold RV at q ⊢
    obtain ⟨a, vs, e, t, f, q⟩ := q
    exact ⟨a, vs, e, t, hf a f, RVs.mono hf hs ht hm ds vs q⟩
  | .opq 0, v, q => by unfold RV at q ⊢; rw [hs]; exact q
  | .opq 1, v, q => by
    unfold RV at q ⊢
    obtain ⟨t, b, e, q⟩ := q
    exact ⟨t, b, ht _ _ e, q⟩
  | .opq (_ + 2), v, q => by unfold RV at q; exact q.elim
  | .obj c fs, v, q => by
    unfold RV at q ⊢
    obtain ⟨a, dx, fl, vs, ts, e, t, f, l1, l2, fo, mm, q⟩ := q
    exact ⟨a, dx, fl, vs, ts, e, t, hf a f, l1, l2, fo, fun j d e => hm _ _ _ (mm j d e), RVs.mono hf hs ht hm fs vs q⟩
  | .dct kvs, v, q => by
    unfold RV at q ⊢
    obtain ⟨a, o, es, vs, e, t, f, k, e2, q⟩ := q
    exact ⟨a, o, es, vs, e, t, hf a f, k, e2, RVs.mono hf hs ht hm kvs vs q⟩
theorem RVs.mono {S1 : Sg} (hf : ∀ a, S.fz a → S1.fz a) (hs : S1.sc = S.sc) (ht : ∀ t b, S.tw t b → S1.tw t b) (hm : ∀ d j o, S.mm d j o → S1.mm d j o) : ∀ (ds : List D) (vs : List V), RVs K S H ds vs → RVs K S1 H ds vs
  | [], vs, q => by unfold RVs at q ⊢; exact q
  | d :: ds, vs, q => by
    unfold RVs at q ⊢
    obtain ⟨v, t, e, q1, q2⟩ := q
    exact ⟨v, t, e, RV.mono hf hs ht hm d v q1, RVs.mono hf hs ht hm ds t q2⟩
end
mutual
theorem RV.scal {S1 : Sg} : ∀ {d : D} {v : V}, isScal d = true → RV K S H d v → RV K S1 H d v
  | .non, v, _, q => by unfold RV at q ⊢; exact q
  | .bl b, v, _, q => by unfold RV at q ⊢; exact q
  | .int i, v, _, q => by unfold RV at q ⊢; exact q
  | .str s, v, _, q => by unfold RV at q ⊢; exact q
  | .tup ds, v, h, q => by
    unfold RV at q ⊢
    obtain ⟨a, vs, e, t, q⟩ := q
    exact ⟨a, vs, e, t, RVs.scal (by simpa [isScal] using h) q⟩
  | .lst ds, v, h, q => by simp [isScal] at h
  | .opq n, v, h, q => by simp [isScal] at h
  | .obj c n, v, h, q => by simp [isScal] at h
  | .dct n, v, h, q => by simp [isScal] at h
theorem RVs.scal {S1 : Sg} : ∀ {ds : List D} {vs : List V}, isScals ds = true → RVs K S H ds vs → RVs K S1 H ds vs
  | [], vs, _, q => by unfold RVs at q ⊢; exact q
  | d :: ds, vs, h, q => by
    simp only [isScals, Bool.and_eq_true] at h
    unfold RVs at q ⊢
    obtain ⟨v, t, e, q1, q2⟩ := q
    exact ⟨v, t, e, RV.scal h.1 q1, RVs.scal h.2 q2⟩
end
mutual
theorem key_scal : ∀ (n : Nat) (d : D), D.keyD n d = true → isScal d = true
  | n, .non, _ => by simp [isScal]
  | n, .bl b, h => by cases n <;> simp [D.keyD] at h
  | n, .int i, _ => by simp [isScal]
  | n, .str s, _ => by simp [isScal]
  | 0, .tup xs, h => by simp [D.keyD] at h
  | n + 1, .tup xs, h => by
    simp only [isScal]
    exact keys_scal n xs (by simpa [D.keyD] using h)
  | n, .lst xs, h => by cases n <;> simp [D.keyD] at h
  | n, .opq k, h => by cases n <;> simp [D.keyD] at h
  | n, .obj c k, h => by cases n <;> simp [D.keyD] at h
  | n, .dct k, h => by cases n <;> simp [D.keyD] at h
theorem keys_scal : ∀ (n : Nat) (ds : List D), D.keyDs n ds = true → isScals ds = true
  | n, [], _ => by simp [isScals]
  | n, d :: ds, h => by
    simp only [D.keyDs, Bool.and_eq_true] at h
    simp only [isScals, key_scal n d h.1, keys_scal n ds h.2, Bool.and_self]
end
theorem MemOk.scal {S1 : Sg} {d : Addr} {j : Nat} {o : D} (q : MemOk K S H d j o) : MemOk K S1 H d j o := by
  obtain ⟨es, h1, h2, h3⟩ := q
  refine ⟨es, h1, h2, fun x hx => ?_⟩
  obtain ⟨kd, vd, z1, z2, z3, z4, z5, z6, z7⟩ := h3 x hx
  exact ⟨kd, vd, z1, z2, z3, RV.scal (key_scal 8 kd z3) z4, z5, RV.scal z5 z6, z7⟩
def Sg.callee (S : Sg) (c : Bool) : Sg := { as := [], fz := fun a => S.fz a ∨ (c = true ∧ a ∈ S.as), sc := S.sc, tw := S.tw, mm := S.mm }
theorem RelH.callee (r : RelH K S H h) (c : Bool) : RelH K (S.callee c) H [] where
  len := rfl
  nd := List.nodup_nil
  obj := fun n o e => by simp at e
  sep := fun n a o e => by cases e
  scr := by
    obtain ⟨ns, l, e⟩ := r.scr
    refine ⟨ns, l, ?_⟩
    rcases e with e | ⟨e, f⟩ | e
    · exact .inl e
    · exact .inr (.inl ⟨e, .inl f⟩)
    · exact .inr (.inr e)
  twn := r.twn
  fzs := fun a m => by
    rcases m with m | ⟨_, m⟩
    · exact r.fzs a m
    · exact r.own_at m
  tab := r.tab
  mem := fun d j o m => (r.mem d j o m).scal
  mmu := r.mmu
  omm := fun a m => by
    rcases m with m | m | ⟨_, m⟩
    · cases m
    · exact r.omm a (.inr m)
    · exact r.omm a (.inl m)
theorem dats_rd : ∀ {fs : List Vv} {ds : List D}, dats0 fs = some ds → rdFs h fs = some ds
  | [], ds, e => e
  | .d x :: r, ds, e => by
    simp only [dats0] at e
    obtain ⟨ds', e1, rfl⟩ := Option.map_eq_some_iff.mp e
    simp [rdFs, rdF, dats_rd e1]
  | .r n :: r, ds, e => by simp [dats0] at e
theorem RWs.rdF (r : RelH K S H h) : ∀ {vs : List Vv} {ds : List D} {ws : List V}, RWs K S H vs ws → rdFs h vs = some ds → RVs K (S.callee true) H ds ws
  | [], ds, ws, q, e => by cases e; rw [show ws = [] from q]; exact .nil
  | x :: xs, ds, ws, q, e => by
    obtain ⟨v, t, rfl, q1, q2⟩ := q
    simp only [rdFs] at e
    obtain ⟨d, e1, e2⟩ := Option.bind_eq_some_iff.mp e
    obtain ⟨ds', e3, rfl⟩ := Option.map_eq_some_iff.mp e2
    refine .cons ?_ (RWs.rdF r q2 e3)
    cases x with
    | d y =>
      have : y = d := Option.some.inj e1
      subst this
      exact RV.mono (S := S) (S1 := S.callee true) (fun a m => Or.inl m) rfl (fun _ _ m => m) (fun _ _ _ m => m) _ _ q1
    | r n =>
      obtain ⟨a, ea, rfl⟩ := q1
      simp only [Bk.rdF] at e1
      split at e1
      · rename_i ys hx
        cases e1
        obtain ⟨b, eb, us, hv, q⟩ := r.obj n _ hx
        rw [ea] at eb; cases eb
        unfold RV
        exact ⟨a, us, rfl, hv, .inr ⟨rfl, List.mem_of_getElem? ea⟩, RVs.mono (S := S) (S1 := S.callee true) (fun a m => Or.inl m) rfl (fun _ _ m => m) (fun _ _ _ m => m) _ _ q⟩
      · cases e1
theorem rdFs_len : ∀ {fs : List Vv} {ds : List D}, rdFs h fs = some ds → ds.length = fs.length
  | [], ds, e => by cases e; rfl
  | x :: r, ds, e => by
    simp only [rdFs] at e
    obtain ⟨d, e1, e2⟩ := Option.bind_eq_some_iff.mp e
    obtain ⟨ds', e3, rfl⟩ := Option.map_eq_some_iff.mp e2
    rw [List.length_cons, List.length_cons, rdFs_len e3]
theorem RWs.callee (r : RelH K S H h) {c : Bool} : ∀ {vs : List Vv} {ds : List D} {ws : List V}, (anyR vs = true → c = true) → RWs K S H vs ws → rdVs h vs = some ds → RVs K (S.callee c) H ds ws
  | [], ds, ws, _, q, e => by cases e; rw [show ws = [] from q]; exact .nil
  | x :: xs, ds, ws, hc, q, e => by
    obtain ⟨v, t, rfl, q1, q2⟩ := q
    simp only [rdVs] at e
    obtain ⟨d, e1, e2⟩ := Option.bind_eq_some_iff.mp e
    obtain ⟨ds', e3, rfl⟩ := Option.map_eq_some_iff.mp e2
    have mn : ∀ d v, RV K S H d v → RV K (S.callee c) H d v := RV.mono (fun a m => .inl m) rfl (fun _ _ m => m) (fun _ _ _ m => m)
    have mns : ∀ d v, RVs K S H d v → RVs K (S.callee c) H d v := RVs.mono (fun a m => .inl m) rfl (fun _ _ m => m) (fun _ _ _ m => m)
    have rest : RVs K (S.callee c) H ds' t := RWs.callee r (fun z => hc (by cases x <;> simp [anyR, z])) q2 e3
    refine .cons ?_ rest
    cases x with
    | d y =>
      have : y = d := Option.some.inj e1
      subst this
      exact mn _ _ q1
    | r n =>
      obtain ⟨a, ea, rfl⟩ := q1
      simp only [rdV] at e1
      split at e1
      · rename_i ys hx
        cases e1
        obtain ⟨b, eb, us, hv, q⟩ := r.obj n _ hx
        rw [ea] at eb; cases eb
        unfold RV
        exact ⟨a, us, rfl, hv, .inr ⟨hc (by simp [anyR]), List.mem_of_getElem? ea⟩, mns _ _ q⟩
      · rename_i cc fs m hx
        split at e1
        · rename_i hlm
          rw [Bool.and_eq_true] at hlm
          have l1 := Nat.eq_of_beq_eq_true hlm.1
          have l2 := Nat.eq_of_beq_eq_true hlm.2
          obtain ⟨ds, er, rfl⟩ := Option.map_eq_some_iff.mp e1
          obtain ⟨b, eb, dx, fl, vs, ts, z1, z2, z3, z4, z5, z6, z7⟩ := r.obj n _ hx
          rw [ea] at eb; cases eb
          have hct : c = true := hc (by simp [anyR])
          subst hct
          have hvs := RWs.rdF r z2 er
          have hln : ds.length = (cf cc).length := by
            rw [← l1]
            exact (rdFs_len er)
          unfold RV
          refine ⟨a, dx, fl, vs, ts, rfl, z1, .inr ⟨rfl, List.mem_of_getElem? ea⟩, hln, by rw [z3, l2], z4, fun j d e => ?_, hvs⟩
          obtain ⟨ds', y1, y2⟩ := z7 j d e
          have := dats_rd (h := h) y1
          rw [er] at this
          cases this
          exact y2
        · cases e1
      · rename_i kvs hx
        cases e1
        obtain ⟨b, eb, o, es, z1, z2, z3⟩ := r.obj n _ hx
        rw [ea] at eb; cases eb
        unfold RV
        exact ⟨a, o, es, _, rfl, z1, .inr ⟨hc (by simp [anyR]), List.mem_of_getElem? ea⟩, z2, rfl, mns _ _ z3⟩
      · cases e1
      · cases e1
      · cases e1
def Sg.back (S S1 : Sg) (c : Bool) : Sg := { as := S.as, fz := fun a => S.fz a ∨ (c = false ∧ S1.fz a), sc := S.sc, tw := S1.tw, mm := S1.mm }
theorem ext_back {c : Bool} {S1 : Sg} {H1 : Hp} (x : Ext (S.callee c) H S1 H1) : Ext S H (S.back S1 c) H1 where
  as := ⟨[], by simp [Sg.back]⟩
  kp := x.kp
  na := fun _ _ _ _ m => m
  fz := fun a m => .inl m
  nf := fun a o e n m => by
    rcases m with m | ⟨hc, m⟩
    · exact .inl m
    · rcases x.nf a o e n m with (m | ⟨hc', _⟩) | m
      · exact .inl m
      · rw [hc] at hc'; cases hc'
      · cases m
  fr := fun a o e n h1 h2 h3 => x.fr a o e n (by simp [Sg.callee]) h2 h3
  sc := rfl
  tw := x.tw
  nt := x.nt
  mm := x.mm
  nm := x.nm
  fk := fun a o e n h1 h2 h3 => x.fk a o e n (.inl h1) h2 h3
theorem RelH.back (r : RelH K S H h) {c : Bool} {S1 : Sg} {H1 : Hp} (x : Ext (S.callee c) H S1 H1) (r1 : RelH K S1 H1 []) : RelH K (S.back S1 c) H1 h := by
  have xb := ext_back x
  have keepA : ∀ a ∈ S.as, H1 a = H a := fun a m => by
    obtain ⟨o, q, n⟩ := r.own_at m
    rw [q]
    exact x.fr a _ q n (by simp [Sg.callee]) (fun z => r.own_tw m z) (fun z => r.own_mm m z)
  refine ⟨r.len, r.nd, fun n o e => r.mapO xb keepA e, fun m a o e1 e2 e3 z => ?_, r.keepS xb r.scr, r1.twn, fun a m => ?_, r1.tab, fun d j o m => (r1.mem d j o m).scal, r1.mmu, fun a m => ?_⟩
  · rcases z with z | ⟨hc, z⟩
    · exact r.sep m a o e1 e2 e3 z
    · obtain ⟨o', q, n⟩ := r.own_at (List.mem_of_getElem? e1)
      rcases x.nf a _ q n z with (z | ⟨hc', _⟩) | z
      · exact r.sep m a o e1 e2 e3 z
      · rw [hc] at hc'; cases hc'
      · cases z
  · rcases m with m | ⟨_, m⟩
    · obtain ⟨o, q, n⟩ := r.fzs a m
      exact x.kp a o q n
    · exact r1.fzs a m
  · rcases m with m | m | ⟨_, m⟩
    · obtain ⟨o', q, n⟩ := r.own_at m
      exact fun z => r.own_mm m (x.nm a _ q n z)
    · obtain ⟨o', q, n⟩ := r.fzs a m
      exact fun z => r.omm a (.inr m) (x.nm a _ q n z)
    · exact r1.omm a (.inr m)
theorem RV.back {c : Bool} {S1 : Sg} {H1 : Hp} {d : D} {v : V} (x : Ext (S.callee c) H S1 H1) (hd : (!c || isScal d) = true) (q : RV K S1 H1 d v) : RV K (S.back S1 c) H1 d v := by
  cases c with
  | false => exact RV.mono (S := S1) (S1 := S.back S1 false) (fun a m => Or.inr ⟨rfl, m⟩) (show S.sc = S1.sc from x.sc.symm) (fun _ _ m => m) (fun _ _ _ m => m) d v q
  | true => exact RV.scal (by simpa using hd) q
theorem spC_of {f : Nat} {vs : List Vv} {ds : List D} {ws : List V} {Q : VK} (r : RelH K S H h) (rv : RWs K S H vs ws) (e : rdVs h vs = some ds) (hl : ws.length = (G.fps f).length)
    (hb : (bnd (cl f ds) fun d => match !anyR vs || isScal d with
      | true => ok (Vv.d d)
      | false => .stk).All (Po K mg G S H h (qV K Q) E)) : spC K mg G cl f ws H Q E := by
  refine ⟨hl, S.callee (anyR vs), ds, rfl, r.callee _, RWs.callee r (fun z => z) rv e, F.All.imp (fun y p => ?_) (bnd_all hb)⟩
  cases y with
  | ok d =>
    intro S' v H' x has r1 q
    have p : (match !anyR vs || isScal d with | true => ok (Vv.d d) | false => .stk).All (Po K mg G S H h (qV K Q) E) := p
    split at p
    · rename_i hd
      exact okD p _ _ _ (ext_back x) (r.back x r1) (RV.back x hd q)
    · exact p.elim
  | ex c =>
    intro S' H' x has r1
    exact p _ _ (ext_back x) (r.back x r1)
end
end Bk
namespace Bk
open PySem PySem.Spec PyProof.Rows L2
def top (i : Nat) : Stmt := PySem.Challenge.pw_backcopies_k02_all_ways.main.body.getD i (.Pass ⟨0, 0, 0, 0⟩)
def dd (x : Str) (i : Nat) : He.DefD := ⟨(x, none), x, x, defArgs (top i), defBody (top i), defScope (top i), [], []⟩
def inCls (st : Stmt) (j : Nat) : Stmt := match st with
  | .ClassDef _ _ _ body _ _ _ _ _ _ _ => body.getD j (.Pass ⟨0, 0, 0, 0⟩)
  | _ => .Pass ⟨0, 0, 0, 0⟩
def dm (c m q : Str) (i j : Nat) : He.DefD := ⟨(c, some m), m, q, defArgs (inCls (top i) j), defBody (inCls (top i) j), defScope (inCls (top i) j), [], []⟩
def hFn : List He.DefD := [dd "is_between" 3, dd "is_word" 4, dd "is_way" 5, dd "all_ways" 6, dd "_law_draw" 8, dd "_law_begun" 9, dd "_law_rule" 10, dd "_law_count" 11, dd "law" 12]
def hFa0 : List He.Fa := [.glo "is_between", .glo "is_word", .glo "is_way", .glo "all_ways", .glo "_law_draw", .glo "_law_begun", .glo "_law_rule", .glo "_law_count", .glo "law", .free "len", .free "min", .free "max", .free "sum", .free "all", .free "any", .free "tuple", .free "list", .free "abs", .free "str", .free "int", .free "bool", .free "isinstance", .free "range", .free "enumerate", .free "zip", .free "sorted", .free "set", .free "dict", .glo "LOOKS", .glo "TIES"]
def hFa : List He.Fa := hFa0
def hTf : List Str := ["law"]
def hEx (K : PySem.W.Frag) : Bool := true && tbU K && decide (tdf K = hTf) && He.tupB K "LOOKS" [.str "fewest", .str "next", .str "now", .str "two"] && He.tupB K "TIES" [.str "far", .str "near"]
def loose0 : List Str := ["is_between", "is_word", "is_way", "all_ways", "_law_draw", "_law_begun", "_law_rule", "_law_count", "LOOKS", "TIES", "__name__"]
def loose : List Str := loose0
abbrev hRow : PySem.W.OpenRow := PySem.W.OpenLaw.row PySem.Challenge.rw_backcopies_k02_all_ways
abbrev hTd : List He.Defn := hTf.map fun x => (x, none)
abbrev hk : PySem.W.Hook := He.hookX 4 hFa hFn [] hTd hEx
def ob (s : PySem.W.SharedT) : He.AlX := He.obsX 4 hFa hFn [] hTd hEx (HandSHeadRun.getT s)
theorem ob_eq (s : PySem.W.SharedT) : ob s = hk.obs s.abs := He.obsX_eq (HandSHeadRun.getT_eq s)
theorem hRun (w : World) : HandSHeadRun.RunEq hRow (PySem.W.view hRow.prog [12]) hk ob 12000 loose w := by
  intro os
  kernel_rfl
end Bk
namespace Bk
open PySem PySem.Spec PyProof.Rows L2
variable [MF] [PWc]
theorem PE.imp {X : Cx} {e : PySem.Expr} {t t' : TE} (p : PE X e t) (h : ∀ σ H Q, t' σ H Q → t σ H Q) : PE X e t' := ⟨fun pins s σ H Q I q => p.run pins s σ H Q I (h σ H Q q)⟩
theorem PT.imp {X : Cx} {e : PySem.Expr} {t t' : TT} (p : PT X e t) (h : ∀ σ H Q, t' σ H Q → t σ H Q) : PT X e t' := ⟨fun pins s σ H Q I q => p.run pins s σ H Q I (h σ H Q q)⟩
theorem PW.imp {X : Cx} {e : PySem.Expr} {t t' : TT} (p : PW X e t) (h : ∀ σ H Q, t' σ H Q → t σ H Q) : PW X e t' := ⟨fun wh pins s σ H Q I q => p.run wh pins s σ H Q I (h σ H Q q)⟩
theorem PA.imp {X : Cx} {e : List PySem.Expr} {t t' : TA} (p : PA X e t) (h : ∀ σ H Q, t' σ H Q → t σ H Q) : PA X e t' := ⟨fun pos pins s σ H Q I q => p.run pos pins s σ H Q I (h σ H Q q)⟩
theorem PK.imp {X : Cx} {e : List Keyword} {t t' : TA} (p : PK X e t) (h : ∀ σ H Q, t' σ H Q → t σ H Q) : PK X e t' := ⟨fun pos pins s σ H Q I q => p.run pos pins s σ H Q I (h σ H Q q)⟩
theorem PO.imp {X : Cx} {e : Option PySem.Expr} {t t' : TO} (p : PO X e t) (h : ∀ σ H Q, t' σ H Q → t σ H Q) : PO X e t' := ⟨fun pins s σ H Q I q => p.run pins s σ H Q I (h σ H Q q)⟩
theorem PI.imp {X : Cx} {tg e : PySem.Expr} {t t' : TI} (p : PI X tg e t) (h : ∀ σ H Q, t' σ H Q → t σ H Q) : PI X tg e t' := ⟨fun pins s σ H Q I q => p.run pins s σ H Q I (h σ H Q q)⟩
theorem PG.imp {X : Cx} {e : PySem.Expr} {t t' : TG} (p : PG X e t) (h : ∀ v σ H Q, t' v σ H Q → t v σ H Q) : PG X e t' := ⟨fun pins s σ H v u Q I r q => p.run pins s σ H v u Q I r (h v σ H Q q)⟩
theorem PGs.imp {X : Cx} {e : List PySem.Expr} {t t' : TGs} (p : PGs X e t) (h : ∀ v σ H Q, t' v σ H Q → t v σ H Q) : PGs X e t' := ⟨fun pins s σ H v u Q I r q => p.run pins s σ H v u Q I r (h v σ H Q q)⟩
theorem PTs.imp {X : Cx} {e : List PySem.Expr} {t t' : TT} (p : PTs X e t) (h : ∀ σ H Q, t' σ H Q → t σ H Q) : PTs X e t' := ⟨fun pins s σ H Q I q => p.run pins s σ H Q I (h σ H Q q)⟩
section
variable {X : Cx} {N : List Str} {sc : Scope} {top : Bool} {E : XK} {k : Nat} {G : Nm} {gc : Gc} {cl : Cl}
theorem Cok.gl (C : Cok X N sc top E k G gc cl) {x : Str} (h : glb sc x = true) : Gl X x := by
  show X.env.scope.names.lookup x = some .globalImplicit
  rw [C.hs]; exact glb_ok h
theorem Cok.free (C : Cok X N sc top E k G gc cl) {x : Str} (h : x ∈ bltN) : X.mg x = none := C.W.blt x h
theorem Cok.blk (C : Cok X N sc top E k G gc cl) (s : Shared) (H : Hp) (scope : Scope) (cl' : List (Str × Addr)) (Cc : Addr) (fp : List Addr) :
    Cok (X.blk s H scope (compEnvC scope cl' Cc X.env) fp) N (relS scope sc) false (fun _ _ _ => False) k G gc cl :=
  ⟨C.hN, C.nd, by rw [← C.hs]; rfl, C.calm, C.room, C.room2, C.pw, C.lam, takes0, (fun z => nomatch z), C.W⟩
theorem opOf (C : Cok X N sc top E k G gc cl) {o : Bop} {op : Operator} (h : mBop o op = true) : OpR X (binaryOp op) (rOp X.K (bopD o)) := by
  cases o <;> cases op <;> first
    | (exact absurd h (by decide))
    | exact opR_add
    | exact opR_sub
    | exact opR_mul
    | exact opR_fdiv
    | exact opR_mod
    | exact opR_pow
theorem copOf (C : Cok X N sc top E k G gc cl) {o : Cop} {op : CmpOp} (h : mCop o op = true) : OpR X (compareOp op) (rCmp X.K (cmpD o)) := by
  have hu := C.room.units
  have hu2 : X.A.units + 65 < cLine := by have := C.room.un; omega
  cases o <;> cases op <;> first
    | (exact absurd h (by decide))
    | exact opR_eq hu
    | exact opR_ne hu
    | exact opR_lt
    | exact opR_le
    | exact opR_gt
    | exact opR_ge
    | exact opR_is
    | exact opR_isn
    | exact opR_in hu2
    | exact opR_nin hu2
def Diff (is : List Nat) (σ σ' : L2.St) : Prop := ∀ vs : List Nat, (∀ i ∈ is, i ∈ vs) → wipe σ' vs = wipe σ vs
def gT (K : PySem.W.Frag) (t : Tg) : TG := fun v σ H Q => ∃ S e h d e', RelH K S H h ∧ RelE K S H e σ ∧ RV K S H d v ∧ asg t d e = some e' ∧ ∀ σ', RelE K S H e' σ' → Diff (tgS t) σ σ' → Q σ' H
def gTs (K : PySem.W.Frag) (ts : List Tg) : TGs := fun vs σ H Q => ∃ S e h ds e', RelH K S H h ∧ RelE K S H e σ ∧ RVs K S H ds vs ∧ asgs ts ds e = some e' ∧ ∀ σ', RelE K S H e' σ' → Diff (tgSs ts) σ σ' → Q σ' H
theorem wipe_get (σ : L2.St) : ∀ (vs : List Nat) (j : Nat), (wipe σ vs)[j]? = if j ∈ vs then (σ[j]?).map fun _ => none else σ[j]?
  | [], j => by simp [wipe]
  | v :: vs, j => by
    unfold wipe
    have ih := wipe_get σ vs j
    by_cases hj : v = j
    · subst hj
      rw [List.getElem?_set]
      simp only [if_true, wipe_length]
      by_cases hl : v < σ.length
      · rw [if_pos hl, if_pos List.mem_cons_self, List.getElem?_eq_getElem hl]; rfl
      · rw [if_neg hl, if_pos List.mem_cons_self, List.getElem?_eq_none (by omega)]; rfl
    · rw [List.getElem?_set_ne hj, ih]
      have e : (j ∈ v :: vs) ↔ j ∈ vs := by
        rw [List.mem_cons]
        exact ⟨fun z => z.resolve_left (Ne.symm hj), .inr⟩
      simp only [e]
theorem diff_set {i : Nat} {σ : L2.St} {v : V} : Diff [i] σ (σ.set i (some v)) := fun vs hv => by
  refine List.ext_getElem? fun j => ?_
  rw [wipe_get, wipe_get]
  by_cases hj : j ∈ vs
  · rw [if_pos hj, if_pos hj, List.getElem?_set]
    by_cases e : i = j
    · subst e
      by_cases hl : i < σ.length
      · simp [hl]
      · simp [hl]
    · simp [e]
  · rw [if_neg hj, if_neg hj, List.getElem?_set_ne (show i ≠ j from fun e => hj (by rw [← e]; exact hv i List.mem_cons_self))]
theorem loc1_ok {sc : Scope} {top : Bool} {x : Str} (h : loc1 sc top x = true) : sc.names.lookup x = some .local ∨ (top = true ∧ sc.names.lookup x = some .cell) := by
  unfold loc1 at h
  split at h
  · exact .inl ‹_›
  · exact .inr ⟨h, ‹_›⟩
  · cases h
theorem RelE.set {K : PySem.W.Frag} {S : Sg} {H : Hp} {e : En} {σ : L2.St} {i : Nat} {x : Vv} {v : V} (q : RelE K S H e σ) (r : RW K S H x v) : RelE K S H (e.set i (some x)) (σ.set i (some v)) := by
  refine ⟨by rw [List.length_set, List.length_set]; exact q.len, fun j y ej => ?_⟩
  by_cases hj : j = i
  · subst hj
    have hl : j < e.length := by
      have := (List.getElem?_eq_some_iff.mp ej).1
      simpa using this
    rw [List.getElem?_set_self hl] at ej
    cases ej
    exact ⟨v, List.getElem?_set_self (by rw [← q.len]; exact hl), r⟩
  · rw [List.getElem?_set_ne (Ne.symm hj)] at ej
    obtain ⟨w, ew, rw'⟩ := q.sl j y ej
    exact ⟨w, by rw [List.getElem?_set_ne (Ne.symm hj)]; exact ew, rw'⟩
mutual
theorem sTg (C : Cok X N sc top E k G gc cl) : ∀ (t : Tg) (e : PySem.Expr), mTg N sc top t e = true → PG X e (gT X.K t)
  | .nm i, e, h => by
    simp only [mTg] at h
    split at h
    · rename_i x pp
      rw [Bool.and_eq_true] at h
      have hi : X.N[i]? = some x := by rw [C.hN]; exact of_decide_eq_true h.1
      have hN : X.N.Nodup := by rw [C.hN]; exact C.nd
      refine PG.imp (pg_name (i := i) hN hi ?_ ?_) fun v σ H Q q => ?_
      · rcases loc1_ok h.2 with z | ⟨_, z⟩
        · exact .inl (by rw [C.hs]; exact z)
        · exact .inr (by rw [C.hs]; exact z)
      · rcases loc1_ok h.2 with z | ⟨z, _⟩
        · exact .inr (by rw [C.hs]; exact z)
        · exact .inl (C.fn z _)
      · obtain ⟨S, e, h, d, e', r, re, rd, ea, q⟩ := q
        unfold asg at ea
        split at ea
        · cases ea
          exact q _ (re.set (x := .d d) rd) (by simp only [tgS]; exact diff_set)
        · cases ea
    · cases h
  | .tp ts, e, h => by
    simp only [mTg] at h
    split at h
    · rename_i es kk pp
      obtain ⟨pgs, hn, hst⟩ := sTgs C ts es h
      refine PG.imp (pg_tup (n := ts.length) C.calm pgs hn hst) fun v σ H Q q => ?_
      obtain ⟨S, e, h, d, e', r, re, rd, ea, q⟩ := q
      cases d with
      | tup ds =>
        unfold RV at rd
        obtain ⟨a, vs, rfl, t, rvs⟩ := rd
        simp only [asg] at ea
        refine ⟨a, vs, rfl, t, ?_, S, e, h, ds, e', r, re, rvs, ea, fun σ' re' df => q σ' re' (by simp only [tgS]; exact df)⟩
        rw [rvs.length]
        exact asgs_len ts ds e e' ea
      | _ => simp [asg] at ea
    · cases h
theorem sTgs (C : Cok X N sc top E k G gc cl) : ∀ (ts : List Tg) (es : List PySem.Expr), mTgs N sc top ts es = true → PGs X es (gTs X.K ts) ∧ (assignEach es X.env).length = ts.length ∧ (assignEach es X.env).findIdx? (·.1) = none
  | [], [], _ => by
    refine ⟨PGs.imp pgs_nil fun v σ H Q q => ?_, rfl, rfl⟩
    obtain ⟨S, e, h, ds, e', r, re, rd, ea, q⟩ := q
    cases ds with
    | nil =>
      simp only [asgs] at ea
      cases ea
      exact ⟨rd.nil_iff, q _ re (fun _ _ => rfl)⟩
    | cons => simp [asgs] at ea
  | t :: ts, e :: es, h => by
    unfold mTgs at h
    rw [Bool.and_eq_true, Bool.and_eq_true] at h
    obtain ⟨⟨h1, h2⟩, h3⟩ := h
    obtain ⟨pgs, hn, hst⟩ := sTgs C ts es h3
    have ec : assignEach (e :: es) X.env = (false, assign e X.env) :: assignEach es X.env := by
      cases e <;> first | rfl | (simp [notSt] at h1)
    refine ⟨PGs.imp (pgs_cons (sTg C t e h2) pgs (by rw [ec]; rfl)) fun v σ H Q q => ?_, by rw [ec, List.length_cons, List.length_cons, hn], by rw [ec, List.findIdx?_cons]; simp only [Bool.false_eq_true, if_false, hst]; rfl⟩
    obtain ⟨S, e, h, ds, e', r, re, rd, ea, q⟩ := q
    cases ds with
    | nil => simp [asgs] at ea
    | cons d ds =>
      obtain ⟨v', r', rfl, q1, q2⟩ := rd.of_cons
      simp only [asgs] at ea
      obtain ⟨e1, ea1, ea2⟩ := Option.bind_eq_some_iff.mp ea
      exact ⟨v', r', rfl, S, e, h, d, e1, r, re, q1, ea1, fun σ1 re1 df1 => ⟨S, e1, h, ds, e', r, re1, q2, ea2, fun σ2 re2 df2 => q σ2 re2 (fun vs hv => by
        simp only [tgSs] at hv
        rw [df2 vs (fun i hi => hv i (List.mem_append_right _ hi)), df1 vs (fun i hi => hv i (List.mem_append_left _ hi))])⟩⟩
  | [], _ :: _, h => by simp [mTgs] at h
  | _ :: _, [], h => by simp [mTgs] at h
theorem asgs_len : ∀ (ts : List Tg) (ds : List D) (e e' : En), asgs ts ds e = some e' → ds.length = ts.length
  | [], [], _, _, _ => rfl
  | [], _ :: _, _, _, h => by simp [asgs] at h
  | _ :: _, [], _, _, h => by simp [asgs] at h
  | t :: ts, d :: ds, e, e', h => by
    simp only [asgs] at h
    obtain ⟨e1, _, h2⟩ := Option.bind_eq_some_iff.mp h
    rw [List.length_cons, List.length_cons, asgs_len ts ds e1 e' h2]
end
end
end Bk
namespace Bk
open PySem PySem.Spec PyProof.Rows L2
variable [MF] [PWc]
structure ItOk (K : PySem.W.Frag) (S : Sg) (H : Hp) (hq : Hq → Prop) (J : It) (xs : List D) : Prop where
  go : ∀ i S1 H1 h1, hq h1 → Ext S H S1 H1 → RelH K S1 H1 h1 → i < xs.length → J.go i H1
  stop : ∀ S1 H1 h1, hq h1 → Ext S H S1 H1 → RelH K S1 H1 h1 → J.stop xs.length H1
  yld : ∀ i S1 H1 h1 x H', hq h1 → Ext S H S1 H1 → RelH K S1 H1 h1 → i < xs.length → J.yld i H1 x H' → Ext S1 H1 S1 H' ∧ RelH K S1 H' h1 ∧ ∃ d, xs[i]? = some d ∧ RV K S1 H' d x
theorem yld_same {K : PySem.W.Frag} {S1 : Sg} {H1 H' : Hp} {h1 : Hq} {xs : List D} {i : Nat} {x : V} (r1 : RelH K S1 H1 h1) (q : H' = H1 ∧ ∃ d, xs[i]? = some d ∧ RV K S1 H1 d x) : Ext S1 H1 S1 H' ∧ RelH K S1 H' h1 ∧ ∃ d, xs[i]? = some d ∧ RV K S1 H' d x := by
  obtain ⟨rfl, q⟩ := q
  exact ⟨Ext.refl _ _, r1, q⟩
def hqI (it : Ix) (h : Hq) : Hq → Prop := fun h' => isOwn it = true → h' = h
section
variable {K : PySem.W.Frag} {S : Sg} {H : Hp} {h : Hq}
theorem it_tup {a : Addr} {vs : List V} {ds : List D} {hq : Hq → Prop} (r : RelH K S H h) (t : SqT K H a vs) (q : RVs K S H ds vs) : ItOk K S H hq (Itt K a) ds where
  go := fun i S1 H1 h1 _ x r1 hi => ⟨vs, vs[i]'(by rw [q.length]; exact hi), r.keepT x t, List.getElem?_eq_getElem _⟩
  stop := fun S1 H1 h1 _ x r1 => ⟨vs, r.keepT x t, by rw [q.length]; exact Nat.le_refl _⟩
  yld := fun i S1 H1 h1 v H' _ x r1 hi y => by
    obtain ⟨e, y⟩ := y
    have e1 := y vs (r.keepT x t)
    obtain ⟨d, e2, rv⟩ := (RVs.ext r x ds vs q).get' e1
    exact yld_same r1 ⟨e, d, e2, rv⟩
theorem it_lst {a : Addr} {vs : List V} {ds : List D} {hq : Hq → Prop} (r : RelH K S H h) (t : H a = some (.lst vs)) (f : S.fz a) (q : RVs K S H ds vs) : ItOk K S H hq (Itl K a) ds where
  go := fun i S1 H1 h1 _ x r1 hi => ⟨vs, vs[i]'(by rw [q.length]; exact hi), SqL.of (r.keepL x t f), List.getElem?_eq_getElem _⟩
  stop := fun S1 H1 h1 _ x r1 => ⟨vs, SqL.of (r.keepL x t f), by rw [q.length]; exact Nat.le_refl _⟩
  yld := fun i S1 H1 h1 v H' _ x r1 hi y => by
    obtain ⟨e, y⟩ := y
    have e1 := y vs (SqL.of (r.keepL x t f))
    obtain ⟨d, e2, rv⟩ := (RVs.ext r x ds vs q).get' e1
    exact yld_same r1 ⟨e, d, e2, rv⟩
theorem it_own {n : Nat} {a : Addr} {ds : List D} (e : S.as[n]? = some a) (eh : h[n]? = some (.lst ds)) : ItOk K S H (fun h' => h' = h) (Itl K a) ds := by
  have at_ : ∀ S1 H1, Ext S H S1 H1 → RelH K S1 H1 h → ∃ vs, H1 a = some (.lst vs) ∧ RVs K S1 H1 ds vs := fun S1 H1 x r1 => by
    obtain ⟨b, eb, vs, hv, q⟩ := r1.obj n _ eh
    obtain ⟨ns, e2⟩ := x.as
    rw [e2, List.getElem?_append_left (List.getElem?_eq_some_iff.mp e).1, e] at eb
    cases eb
    exact ⟨vs, hv, q⟩
  refine ⟨fun i S1 H1 h1 eq x r1 hi => ?_, fun S1 H1 h1 eq x r1 => ?_, fun i S1 H1 h1 v H' eq x r1 hi y => ?_⟩
  · subst eq
    obtain ⟨vs, hv, q⟩ := at_ S1 H1 x r1
    exact ⟨vs, vs[i]'(by rw [q.length]; exact hi), SqL.of hv, List.getElem?_eq_getElem _⟩
  · subst eq
    obtain ⟨vs, hv, q⟩ := at_ S1 H1 x r1
    exact ⟨vs, SqL.of hv, by rw [q.length]; exact Nat.le_refl _⟩
  · subst eq
    obtain ⟨vs, hv, q⟩ := at_ S1 H1 x r1
    obtain ⟨e1, y⟩ := y
    obtain ⟨d, e2, rv⟩ := q.get' (y vs (SqL.of hv))
    exact yld_same r1 ⟨e1, d, e2, rv⟩
theorem it_str {s : List Nat} {hq : Hq → Prop} : ItOk K S H hq (Its ⟨s.toArray⟩) (s.map fun c => D.str [c]) where
  go := fun i S1 H1 h1 _ x r1 hi => by
    show i < s.toArray.size
    simpa using hi
  stop := fun S1 H1 h1 _ x r1 => by
    show s.toArray.size ≤ _
    simp
  yld := fun i S1 H1 h1 v H' _ x r1 hi y => by
    obtain ⟨e, c, ec, rfl⟩ := y
    refine yld_same r1 ⟨e, .str [c], ?_, by unfold RV; rfl⟩
    rw [List.getElem?_map]
    have : s[i]? = some c := by simpa using ec
    rw [this]; rfl
theorem it_rng {lo : Int} {n : Nat} {hq : Hq → Prop} : ItOk K S H hq (Itr lo n) ((List.range n).map fun (i : Nat) => D.int (lo + (i : Int))) where
  go := fun i S1 H1 h1 _ x r1 hi => by
    show i < n
    simpa using hi
  stop := fun S1 H1 h1 _ x r1 => by
    show n ≤ _
    simp
  yld := fun i S1 H1 h1 v H' _ x r1 hi y => by
    obtain ⟨e, rfl⟩ := y
    have hi' : i < n := by simpa using hi
    refine yld_same r1 ⟨e, .int (lo + i), ?_, by unfold RV; rfl⟩
    rw [List.getElem?_map, List.getElem?_range hi']; rfl
theorem it_rngN {lo : Int} {n : Nat} {hq : Hq → Prop} : ItOk K S H hq (Itc lo (-1) n) ((List.range n).map fun (i : Nat) => D.int (lo - (i : Int))) where
  go := fun i S1 H1 h1 _ x r1 hi => by
    show i < n
    simpa using hi
  stop := fun S1 H1 h1 _ x r1 => by
    show n ≤ _
    simp
  yld := fun i S1 H1 h1 v H' _ x r1 hi y => by
    obtain ⟨e, rfl⟩ := y
    have hi' : i < n := by simpa using hi
    refine yld_same r1 ⟨e, .int (lo - i), ?_, by unfold RV; congr 1; omega⟩
    rw [List.getElem?_map, List.getElem?_range hi']; rfl
theorem enumL_len : ∀ (ds : List D) (n : Nat), (enumL n ds).length = ds.length
  | [], _ => rfl
  | d :: ds, n => by rw [enumL, List.length_cons, List.length_cons, enumL_len ds]
theorem enumL_get : ∀ (ds : List D) (n i : Nat), (enumL n ds)[i]? = ds[i]?.map fun d => D.tup [.int ((n + i : Nat) : Int), d]
  | [], n, i => by simp [enumL]
  | d :: ds, n, 0 => rfl
  | d :: ds, n, i + 1 => by
    rw [enumL, List.getElem?_cons_succ, List.getElem?_cons_succ, enumL_get ds (n + 1) i, show n + 1 + i = n + (i + 1) by omega]
theorem it_enm {a : Addr} {vs : List V} {ds : List D} {hq : Hq → Prop} (r : RelH K S H h) (t : SqT K H a vs) (q : RVs K S H ds vs) : ItOk K S H hq (Iet K a) (enumL 0 ds) where
  go := fun i S1 H1 h1 _ x r1 hi => ⟨vs, vs[i]'(by rw [q.length]; rw [enumL_len] at hi; exact hi), r.keepT x t, List.getElem?_eq_getElem _⟩
  stop := fun S1 H1 h1 _ x r1 => ⟨vs, r.keepT x t, by rw [q.length, enumL_len]⟩
  yld := fun i S1 H1 h1 v H' _ x r1 hi y => by
    obtain ⟨T, u, rfl, hT, rfl, y⟩ := y
    have e1 := y vs (r.keepT x t)
    obtain ⟨d, e2, rv⟩ := (RVs.ext r x ds vs q).get' e1
    refine ⟨ext_new hT, r1.new hT, .tup [.int ((0 + i : Nat) : Int), d], by rw [enumL_get, e2]; rfl, ?_⟩
    have rv' : RV K S1 (upd H1 T (.tup [.int (i : Nat), u])) d u := RV.ext r1 (ext_new hT) d u rv
    unfold RV
    refine ⟨T, [.int (i : Nat), u], rfl, .inl (.inl upd_same), .cons (by unfold RV; rw [Nat.zero_add]) (.cons rv' .nil)⟩
theorem it_enmL {a : Addr} {vs : List V} {ds : List D} {hq : Hq → Prop} (r : RelH K S H h) (t : H a = some (.lst vs)) (f : S.fz a) (q : RVs K S H ds vs) : ItOk K S H hq (Ite K a) (enumL 0 ds) where
  go := fun i S1 H1 h1 _ x r1 hi => ⟨vs, vs[i]'(by rw [q.length]; rw [enumL_len] at hi; exact hi), SqL.of (r.keepL x t f), List.getElem?_eq_getElem _⟩
  stop := fun S1 H1 h1 _ x r1 => ⟨vs, SqL.of (r.keepL x t f), by rw [q.length, enumL_len]; exact Nat.le_refl _⟩
  yld := fun i S1 H1 h1 v H' _ x r1 hi y => by
    obtain ⟨T, u, rfl, hT, rfl, y⟩ := y
    have e1 := y vs (SqL.of (r.keepL x t f))
    obtain ⟨d, e2, rv⟩ := (RVs.ext r x ds vs q).get' e1
    refine ⟨ext_new hT, r1.new hT, .tup [.int ((0 + i : Nat) : Int), d], by rw [enumL_get, e2]; rfl, ?_⟩
    have rv' : RV K S1 (upd H1 T (.tup [.int (i : Nat), u])) d u := RV.ext r1 (ext_new hT) d u rv
    unfold RV
    refine ⟨T, [.int (i : Nat), u], rfl, .inl (.inl upd_same), .cons (by unfold RV; rw [Nat.zero_add]) (.cons rv' .nil)⟩
theorem it_enmS {s : List Nat} {hq : Hq → Prop} : ItOk K S H hq (Ies ⟨s.toArray⟩) (enumL 0 (s.map fun c => .str [c])) where
  go := fun i S1 H1 h1 _ x r1 hi => by
    rw [enumL_len, List.length_map] at hi
    show i < s.toArray.size
    simpa using hi
  stop := fun S1 H1 h1 _ x r1 => by
    show s.toArray.size = _
    rw [enumL_len, List.length_map]
    simp
  yld := fun i S1 H1 h1 v H' _ x r1 hi y => by
    obtain ⟨T, c, rfl, hT, rfl, y⟩ := y
    have e2 : s[i]? = some c := by simpa using y
    refine ⟨ext_new hT, r1.new hT, .tup [.int ((0 + i : Nat) : Int), .str [c]], by rw [enumL_get, List.getElem?_map, e2]; rfl, ?_⟩
    unfold RV
    refine ⟨T, [.int (i : Nat), .str ⟨#[c]⟩], rfl, .inl (.inl upd_same), .cons (by unfold RV; rw [Nat.zero_add]) (.cons (by unfold RV; rfl) .nil)⟩
theorem zipL_len : ∀ ds es : List D, (zipL ds es).length = min ds.length es.length
  | [], _ => by simp [zipL]
  | _ :: _, [] => by simp [zipL]
  | d :: ds, e :: es => by
    rw [zipL, List.length_cons, zipL_len ds es, List.length_cons, List.length_cons]
    omega
theorem zipL_get : ∀ (ds es : List D) (i : Nat) (d e : D), ds[i]? = some d → es[i]? = some e → (zipL ds es)[i]? = some (.tup [d, e])
  | [], _, i, d, e, h, _ => by simp at h
  | _ :: _, [], i, d, e, _, h => by simp at h
  | x :: ds, y :: es, 0, d, e, h1, h2 => by
    cases h1
    cases h2
    rfl
  | x :: ds, y :: es, i + 1, d, e, h1, h2 => by
    rw [List.getElem?_cons_succ] at h1 h2
    rw [zipL, List.getElem?_cons_succ]
    exact zipL_get ds es i d e h1 h2
theorem it_zip {a b : Addr} {vs ws : List V} {ds es : List D} {hq : Hq → Prop} (r : RelH K S H h) (t : H a = some (.lst vs)) (f : S.fz a) (q : RVs K S H ds vs) (t2 : H b = some (.lst ws)) (f2 : S.fz b) (q2 : RVs K S H es ws) :
    ItOk K S H hq (Itz K a b) (zipL ds es) where
  go := fun i S1 H1 h1 _ x r1 hi => by
    rw [zipL_len] at hi
    have e1 := q.length
    have e2 := q2.length
    exact ⟨vs, ws, vs[i]'(by omega), ws[i]'(by omega), SqL.of (r.keepL x t f), SqL.of (r.keepL x t2 f2), List.getElem?_eq_getElem _, List.getElem?_eq_getElem _⟩
  stop := fun S1 H1 h1 _ x r1 => ⟨vs, ws, SqL.of (r.keepL x t f), SqL.of (r.keepL x t2 f2), by
    have e1 := q.length
    have e2 := q2.length
    rw [zipL_len]
    omega⟩
  yld := fun i S1 H1 h1 v H' _ x r1 hi y => by
    obtain ⟨T, u, u2, rfl, hT, rfl, y1, y2⟩ := y
    obtain ⟨d, e1, rv⟩ := (RVs.ext r x ds vs q).get' (y1 vs (SqL.of (r.keepL x t f)))
    obtain ⟨d2, e2, rv2⟩ := (RVs.ext r x es ws q2).get' (y2 ws (SqL.of (r.keepL x t2 f2)))
    refine ⟨ext_new hT, r1.new hT, .tup [d, d2], zipL_get ds es i d d2 e1 e2, ?_⟩
    have rv' : RV K S1 (upd H1 T (.tup [u, u2])) d u := RV.ext r1 (ext_new hT) d u rv
    have rv2' : RV K S1 (upd H1 T (.tup [u, u2])) d2 u2 := RV.ext r1 (ext_new hT) d2 u2 rv2
    unfold RV
    exact ⟨T, [u, u2], rfl, .inl (.inl upd_same), .cons rv' (.cons rv2' .nil)⟩
theorem ext_oth {S1 : Sg} {H1 : Hp} {D0 : Addr} {o : HO} (x : Ext S H S1 H1) (n : H D0 = none) : Ext S H S1 (upd H1 D0 o) where
  as := x.as
  kp := fun a o' e n' => by
    obtain ⟨o2, e2, n2⟩ := x.kp a o' e n'
    exact ⟨o2, by rw [upd_ne (ne_of_none e n)]; exact e2, n2⟩
  na := x.na
  fz := x.fz
  nf := x.nf
  fr := fun a o' e n' h1 h2 h3 => by rw [upd_ne (ne_of_none e n)]; exact x.fr a o' e n' h1 h2 h3
  sc := x.sc
  tw := x.tw
  nt := x.nt
  mm := x.mm
  nm := x.nm
  fk := fun a o' e n' h1 h2 h3 => by rw [upd_ne (ne_of_none e n)]; exact x.fk a o' e n' h1 h2 h3
structure Oth (S : Sg) (H : Hp) (D0 : Addr) : Prop where
  lst : ∃ ws, H D0 = some (.lst ws)
  na : D0 ∉ S.as
  nf : ¬ S.fz D0
mutual
theorem RV.oth {D0 : Addr} {o : HO} (z : Oth S H D0) : ∀ (d : D) (v : V), RV K S H d v → RV K S (upd H D0 o) d v
  | .non, v, q => by unfold RV at q ⊢; exact q
  | .bl b, v, q => by unfold RV at q ⊢; exact q
  | .int i, v, q => by unfold RV at q ⊢; exact q
  | .str s, v, q => by unfold RV at q ⊢; exact q
  | .tup ds, v, q => by
    unfold RV at q ⊢
    obtain ⟨a, vs, e, t, q⟩ := q
    refine ⟨a, vs, e, ?_, RVs.oth z ds vs q⟩
    obtain ⟨ws, zl⟩ := z.lst
    rcases t with (t | ⟨o', t⟩) | t
    · exact .inl (.inl (by rw [upd_ne (ne_of t zl (fun k => nomatch k))]; exact t))
    · exact .inl (.inr ⟨o', by rw [upd_ne (ne_of t zl (fun k => nomatch k))]; exact t⟩)
    · exact .inr t
  | .lst ds, v, q => by
    unfold RV at q ⊢
    obtain ⟨a, vs, e, t, f, q⟩ := q
    exact ⟨a, vs, e, by rw [upd_ne (show a ≠ D0 from fun k => z.nf (by rw [← k]; exact f))]; exact t, f, RVs.oth z ds vs q⟩
  | .opq 0, v, q => by unfold RV at q ⊢; exact q
  | .opq 1, v, q => by unfold RV at q ⊢; exact q
  | .opq (_ + 2), v, q => by unfold RV at q; exact q.elim
  | .obj c fs, v, q => by
    unfold RV at q ⊢
    obtain ⟨a, dx, fl, vs, ts, e, t, f, l1, l2, fo, mm, q⟩ := q
    exact ⟨a, dx, fl, vs, ts, e, by rw [upd_ne (show a ≠ D0 from fun k => z.nf (by rw [← k]; exact f))]; exact t, f, l1, l2, fo, mm, RVs.oth z fs vs q⟩
  | .dct kvs, v, q => by
    unfold RV at q ⊢
    obtain ⟨a, o', es, vs, e, t, f, k, e2, q⟩ := q
    exact ⟨a, o', es, vs, e, by rw [upd_ne (show a ≠ D0 from fun k => z.nf (by rw [← k]; exact f))]; exact t, f, k, e2, RVs.oth z kvs vs q⟩
theorem RVs.oth {D0 : Addr} {o : HO} (z : Oth S H D0) : ∀ (ds : List D) (vs : List V), RVs K S H ds vs → RVs K S (upd H D0 o) ds vs
  | [], vs, q => by unfold RVs at q ⊢; exact q
  | d :: ds, vs, q => by
    unfold RVs at q ⊢
    obtain ⟨v, t, e, q1, q2⟩ := q
    exact ⟨v, t, e, RV.oth z d v q1, RVs.oth z ds t q2⟩
end
theorem RWs.oth {D0 : Addr} {o : HO} (z : Oth S H D0) : ∀ (ds : List Vv) (vs : List V), RWs K S H ds vs → RWs K S (upd H D0 o) ds vs
  | [], vs, q => q
  | .d x :: ds, vs, q => by
    obtain ⟨v, t, e, q1, q2⟩ := q
    exact ⟨v, t, e, RV.oth z x v q1, RWs.oth z ds t q2⟩
  | .r n :: ds, vs, q => by
    obtain ⟨v, t, e, q1, q2⟩ := q
    exact ⟨v, t, e, q1, RWs.oth z ds t q2⟩
theorem RWs.mono {S1 : Sg} (hf : ∀ a, S.fz a → S1.fz a) (hs : S1.sc = S.sc) (ht : ∀ t b, S.tw t b → S1.tw t b) (hm : ∀ d j o, S.mm d j o → S1.mm d j o) (ha : S1.as = S.as) : ∀ (ds : List Vv) (vs : List V), RWs K S H ds vs → RWs K S1 H ds vs
  | [], vs, q => q
  | .d x :: ds, vs, q => by
    obtain ⟨v, t, e, q1, q2⟩ := q
    exact ⟨v, t, e, RV.mono hf hs ht hm x v q1, RWs.mono hf hs ht hm ha ds t q2⟩
  | .r n :: ds, vs, q => by
    obtain ⟨v, t, e, q1, q2⟩ := q
    refine ⟨v, t, e, ?_, RWs.mono hf hs ht hm ha ds t q2⟩
    obtain ⟨a, e1, e2⟩ := q1
    exact ⟨a, by rw [ha]; exact e1, e2⟩
theorem RelH.oth (r : RelH K S H h) {D0 : Addr} {o : HO} (z : Oth S H D0) : RelH K S (upd H D0 o) h := by
  obtain ⟨ws, zl⟩ := z.lst
  refine ⟨r.len, r.nd, fun n ob e => ?_, r.sep, ?_, fun t b e => ?_, fun a m => ?_, tabs_write r.tab zl nt_lst (fun _ z => nomatch z), fun d j ob m => ?_, r.mmu, r.omm⟩
  · obtain ⟨a, e1, q⟩ := r.obj n ob e
    have na : a ≠ D0 := fun k => z.na (by rw [← k]; exact List.mem_of_getElem? e1)
    refine ⟨a, e1, ?_⟩
    cases ob with
    | lst ds =>
      obtain ⟨vs, q1, q2⟩ := q
      exact ⟨vs, by rw [upd_ne na]; exact q1, RVs.oth z ds vs q2⟩
    | ins c fs m =>
      obtain ⟨dx, fl, vs, ts, q1, q2, q3⟩ := q
      exact ⟨dx, fl, vs, ts, by rw [upd_ne na]; exact q1, RWs.oth z fs vs q2, q3⟩
    | dct kvs =>
      obtain ⟨o', es, q1, q2, q3⟩ := q
      exact ⟨o', es, by rw [upd_ne na]; exact q1, q2, RVs.oth z kvs _ q3⟩
    | lsv ws' =>
      obtain ⟨vs, q1, q2⟩ := q
      exact ⟨vs, by rw [upd_ne na]; exact q1, RWs.oth z ws' vs q2⟩
    | gone =>
      rcases q with ⟨vs, q⟩ | ⟨o', es, q⟩
      · exact .inl ⟨vs, by rw [upd_ne na]; exact q⟩
      · exact .inr ⟨o', es, by rw [upd_ne na]; exact q⟩
  · obtain ⟨ns, l, e⟩ := r.scr
    refine ⟨ns, l, ?_⟩
    rcases e with ⟨o', e⟩ | ⟨e, f⟩ | e
    · exact .inl ⟨o', by rw [upd_ne (ne_of e zl (fun k => nomatch k))]; exact e⟩
    · exact .inr (.inl ⟨by rw [upd_ne (fun k => z.nf (by rw [← k]; exact f))]; exact e, f⟩)
    · exact .inr (.inr e)
  · obtain ⟨c, rs, h1, h2, h3⟩ := r.twn t b e
    exact ⟨c, rs, by rw [upd_ne (ne_of h1 zl (fun k => nomatch k))]; exact h1, by rw [upd_ne (ne_of h2 zl (fun k => nomatch k))]; exact h2, h3⟩
  · obtain ⟨o', q, n⟩ := r.fzs a m
    exact ⟨o', by rw [upd_ne (show a ≠ D0 from fun k => z.nf (by rw [← k]; exact m))]; exact q, n⟩
  · obtain ⟨es, h1, h2, h3⟩ := r.mem d j ob m
    refine ⟨es, by rw [upd_ne (ne_of h1 zl (fun k => nomatch k))]; exact h1, h2, fun x hx => ?_⟩
    obtain ⟨kd, vd, z1, z2, z3, z4, z5, z6, z7⟩ := h3 x hx
    exact ⟨kd, vd, z1, z2, z3, RV.oth z kd _ z4, z5, RV.oth z vd _ z6, z7⟩
theorem RelH.frzAt (r : RelH K S H h) {D0 : Addr} (z : Oth S H D0) : RelH K (S.frz D0) H h := by
  refine ⟨r.len, r.nd, fun n ob e => ?_, fun n a ob e1 e2 e3 k => ?_, (by
    obtain ⟨ns, l, e⟩ := r.scr
    refine ⟨ns, l, ?_⟩
    rcases e with e | ⟨e, f⟩ | e
    · exact .inl e
    · exact .inr (.inl ⟨e, .inl f⟩)
    · exact .inr (.inr e)), r.twn, fun a m => ?_, r.tab, fun d j o m => (r.mem d j o m).scal, r.mmu, fun a m => ?_⟩
  · obtain ⟨a, e1, q⟩ := r.obj n ob e
    refine ⟨a, e1, ?_⟩
    cases ob with
    | lst ds =>
      obtain ⟨vs, q1, q2⟩ := q
      exact ⟨vs, q1, RVs.mono (S1 := S.frz D0) (fun a m => Or.inl m) rfl (fun _ _ m => m) (fun _ _ _ m => m) ds vs q2⟩
    | ins c fs m =>
      obtain ⟨dx, fl, vs, ts, q1, q2, q3⟩ := q
      exact ⟨dx, fl, vs, ts, q1, RWs.mono (S1 := S.frz D0) (fun a m => Or.inl m) rfl (fun _ _ m => m) (fun _ _ _ m => m) rfl fs vs q2, q3⟩
    | dct kvs =>
      obtain ⟨o', es, q1, q2, q3⟩ := q
      exact ⟨o', es, q1, q2, RVs.mono (S1 := S.frz D0) (fun a m => Or.inl m) rfl (fun _ _ m => m) (fun _ _ _ m => m) kvs _ q3⟩
    | lsv ws' =>
      obtain ⟨vs, q1, q2⟩ := q
      exact ⟨vs, q1, RWs.mono (S1 := S.frz D0) (fun a m => Or.inl m) rfl (fun _ _ m => m) (fun _ _ _ m => m) rfl ws' vs q2⟩
    | gone => exact q
  · rcases k with k | rfl
    · exact r.sep n a ob e1 e2 e3 k
    · exact z.na (List.mem_of_getElem? e1)
  · rcases m with m | rfl
    · exact r.fzs a m
    · obtain ⟨ws, zl⟩ := z.lst
      exact ⟨_, zl, nt_lst⟩
  · rcases m with m | m | rfl
    · exact r.omm a (.inl m)
    · exact r.omm a (.inr m)
    · intro k
      obtain ⟨kvs, q⟩ := r.notMm k
      obtain ⟨ws, zl⟩ := z.lst
      rw [zl] at q; cases q
theorem ext_frzAt {S1 : Sg} {H1 : Hp} {D0 : Addr} (x : Ext S H S1 H1) (n : H D0 = none) : Ext S H (S1.frz D0) H1 where
  as := x.as
  kp := x.kp
  na := x.na
  fz := fun a m => .inl (x.fz a m)
  nf := fun a o e n' m => by
    rcases m with m | rfl
    · exact x.nf a o e n' m
    · rw [n] at e; cases e
  fr := x.fr
  sc := x.sc
  tw := x.tw
  nt := x.nt
  mm := x.mm
  nm := x.nm
  fk := x.fk
theorem Oth.ext {S1 : Sg} {H1 : Hp} {D0 : Addr} {ws : List V} (z : Oth S H D0) (e : H D0 = some (.lst ws)) (r : RelH K S H h) (x : Ext S H S1 H1) : Oth S1 H1 D0 ∧ H1 D0 = some (.lst ws) := by
  have e1 : H1 D0 = some (.lst ws) := x.fr D0 _ e nt_lst z.na (fun k => by
    obtain ⟨kvs, q⟩ := r.notTw k
    rw [e] at q; cases q) (fun k => by
    obtain ⟨kvs, q⟩ := r.notMm k
    rw [e] at q; cases q)
  exact ⟨⟨⟨ws, e1⟩, fun m => z.na (x.na D0 _ e nt_lst m), fun m => by
    rcases x.nf D0 _ e nt_lst m with m | m
    · exact z.nf m
    · exact z.na m⟩, e1⟩
theorem RelE.wip {e : En} {σ : L2.St} (q : RelE K S H e σ) : ∀ vs : List Nat, RelE K S H (wip e vs) (wipe σ vs)
  | [] => q
  | v :: vs => by
    have ih := RelE.wip q vs
    refine ⟨by unfold Bk.wip wipe; rw [List.length_set, List.length_set]; exact ih.len, fun i y ey => ?_⟩
    unfold Bk.wip at ey
    by_cases hv : v = i
    · subst hv
      by_cases hl : v < (Bk.wip e vs).length
      · rw [List.getElem?_set_self hl] at ey; cases ey
      · rw [List.getElem?_eq_none (by simpa using hl)] at ey; cases ey
    · rw [List.getElem?_set_ne hv] at ey
      obtain ⟨w, ew, rw'⟩ := ih.sl i y ey
      exact ⟨w, by unfold wipe; rw [List.getElem?_set_ne hv]; exact ew, rw'⟩
def TurnOk (K : PySem.W.Frag) (h : Hq) (e : En) (σ : L2.St) (f : D → M (Option D)) (g : TG) (tt : TT) (te : TE) (vs : List Nat) : Prop :=
  ∀ S2 H2 x d (Ra : VK) (Rn : Hp → Prop), RelH K S2 H2 h → RelE K S2 H2 e σ → RV K S2 H2 d x →
    (f d).All (fun r => match r with
      | .ok (some z) => ∀ S' H' v, Ext S2 H2 S' H' → RelH K S' H' h → RV K S' H' z v → Ra v H'
      | .ok none => ∀ S' H', Ext S2 H2 S' H' → RelH K S' H' h → Rn H'
      | .ex _ => False) →
    g x (wipe σ vs) H2 fun σ2 H2' => wipe σ2 vs = wipe σ vs ∧ tt σ2 H2' fun b H3 => if b = true then te σ2 H3 Ra else Rn H3
theorem comp_ok {e : En} {σ : L2.St} {J : It} {xs : List D} {f : D → M (Option D)} {g : TG} {tt : TT} {te : TE} {vs : List Nat} {Q : VK} {D0 : Addr} (r : RelH K S H h) (re : RelE K S H e σ) (it : ItOk K S H (fun h' => h' = h) J xs)
    (tn : TurnOk K h e σ f g tt te vs) (n0 : H D0 = none) (hx : xs.length ≤ lim)
    (hb : (cmpL f xs).All (fun q => match q with
      | .ok ys => ∀ S' H', Ext S H S' H' → RelH K S' H' h → ∀ v, RV K S' H' (.lst ys) v → Q v H'
      | .ex _ => False)) :
    ∃ W : Nat → Nat → Hp → Prop, (∃ m, W 0 m (upd H D0 (.lst []))) ∧ ∀ i m H, W i m H →
      (J.stop i H ∧ Q (.ref D0) H) ∨ (J.go i H ∧ ∃ Nx : Hp → Prop, (∀ H', Nx H' → ∃ m', m' < m ∧ W (i + 1) m' H') ∧ ∀ x H', J.yld i H x H' → g x (wipe σ vs) H' fun σ2 H2 => wipe σ2 vs = wipe σ vs ∧ tt σ2 H2 fun b H3 =>
        if b = true then te σ2 H3 fun y H4 => ∃ acc, H4 D0 = some (.lst acc) ∧ acc.length < sizeLine ∧ Nx (upd H4 D0 (.lst (acc ++ [y]))) else Nx H3) := by
  let Wv : Nat → Hp → Prop := fun i Hc => ∃ S1 acc accV, Ext S H S1 Hc ∧ RelH K S1 Hc h ∧ Oth S1 Hc D0 ∧ Hc D0 = some (.lst accV) ∧ RVs K S1 Hc acc accV ∧ acc.length ≤ i ∧
    (cmpL f (xs.drop i)).All (fun q => match q with
      | .ok ys => ∀ S' H', Ext S H S' H' → RelH K S' H' h → ∀ v, RV K S' H' (.lst (acc ++ ys)) v → Q v H'
      | .ex _ => False)
  refine ⟨fun i m Hc => m = xs.length - i ∧ i ≤ xs.length ∧ Wv i Hc, ⟨xs.length, by omega, Nat.zero_le _, S, [], [], ?_, r.new n0, ⟨⟨_, upd_same⟩, fun m => ?_, fun m => ?_⟩, upd_same, .nil, Nat.le_refl _, ?_⟩, ?_⟩
  · exact ext_new n0
  · obtain ⟨o, q, _⟩ := r.own_at m
    rw [n0] at q; cases q
  · obtain ⟨o, q, _⟩ := r.fzs _ m
    rw [n0] at q; cases q
  · rw [List.drop_zero]
    refine F.All.imp (fun q p => ?_) hb
    cases q with
    | ok ys => exact fun S' H' x' r' v rv => p S' H' x' r' v rv
    | ex c => exact p
  · rintro i m Hc ⟨rfl, hi, S1, acc, accV, x1, r1, z1, e1, q1, ha, hb1⟩
    by_cases hlt : i < xs.length
    · refine .inr ⟨it.go i S1 Hc h rfl x1 r1 hlt, Wv (i + 1), fun H' w => ⟨xs.length - (i + 1), by omega, rfl, hlt, w⟩, fun x H' y => ?_⟩
      obtain ⟨xy, ry, d, ed, rv⟩ := it.yld i S1 Hc h x H' rfl x1 r1 hlt y
      obtain ⟨z1, e1⟩ := z1.ext e1 r1 xy
      replace q1 := RVs.ext r1 xy acc accV q1
      replace x1 := x1.trans xy
      replace r1 := ry
      have edr : xs.drop i = d :: xs.drop (i + 1) := by
        rw [List.drop_eq_getElem_cons hlt]
        congr 1
        rw [List.getElem?_eq_getElem hlt] at ed
        exact Option.some.inj ed
      rw [edr] at hb1
      refine tn S1 H' x d _ _ r1 (re.ext r x1) rv (F.All.imp (fun q p => ?_) (bnd_all hb1))
      cases q with
      | ex c => exact p
      | ok o =>
        cases o with
        | none =>
          intro S' H2 x2 r2
          obtain ⟨z2, e2⟩ := z1.ext e1 r1 x2
          refine ⟨S', acc, accV, x1.trans x2, r2, z2, e2, RVs.ext r1 x2 acc accV q1, by omega, ?_⟩
          refine F.All.imp (fun q p => ?_) (bnd_all p)
          cases q with
          | ok ys => exact p
          | ex c => exact p
        | some dz =>
          intro S' H2 v x2 r2 rv2
          obtain ⟨z2, e2⟩ := z1.ext e1 r1 x2
          have pl : (cmpL f (xs.drop (i + 1))).All (fun q => match q with
              | .ok ys => ∀ S' H', Ext S H S' H' → RelH K S' H' h → ∀ v, RV K S' H' (.lst ((acc ++ [dz]) ++ ys)) v → Q v H'
              | .ex _ => False) := by
            refine F.All.imp (fun q p => ?_) (bnd_all p)
            cases q with
            | ok ys =>
              have p : ∀ S' H', Ext S H S' H' → RelH K S' H' h → ∀ v, RV K S' H' (.lst (acc ++ dz :: ys)) v → Q v H' := p
              have eq : acc ++ [dz] ++ ys = acc ++ dz :: ys := by simp
              show ∀ S' H', Ext S H S' H' → RelH K S' H' h → ∀ v, RV K S' H' (.lst (acc ++ [dz] ++ ys)) v → Q v H'
              rw [eq]; exact p
            | ex c => exact p
          refine ⟨accV, e2, ?_, S', acc ++ [dz], accV ++ [v], ext_oth (x1.trans x2) n0, r2.oth z2, ⟨⟨_, upd_same⟩, z2.na, z2.nf⟩, upd_same, ?_, by simp; omega, pl⟩
          · rw [q1.length]
            exact Nat.lt_of_lt_of_le (show acc.length < lim by omega) lim_le
          · exact RVs.oth z2 _ _ ((RVs.ext r1 x2 acc accV q1).append (.cons rv2 .nil))
    · have hi2 : i = xs.length := by omega
      subst hi2
      refine .inl ⟨it.stop S1 Hc h rfl x1 r1, ?_⟩
      rw [List.drop_length] at hb1
      have hb1 : ∀ S' H', Ext S H S' H' → RelH K S' H' h → ∀ v, RV K S' H' (.lst (acc ++ [])) v → Q v H' := hb1
      refine hb1 (S1.frz D0) Hc (ext_frzAt x1 n0) (r1.frzAt z1) _ ?_
      unfold RV
      rw [List.append_nil]
      exact ⟨D0, accV, rfl, e1, .inr rfl, RVs.mono (S1 := S1.frz D0) (fun a m => Or.inl m) rfl (fun _ _ m => m) (fun _ _ _ m => m) acc accV q1⟩
end
end Bk
namespace Bk
open PySem PySem.Spec PyProof.Rows L2
variable [MF] [PWc]
section
variable {k : Nat} {G : Nm} {gc : Gc} {cl : Cl} {N : List Str}
def tEsL (K : PySem.W.Frag) (mg : Str → Option Value) (G : Nm) (gc : Gc) (cl : Cl) (E : XK) (n : Nat) (x : Exs) : TA := fun σ H Q => tEs K mg G gc cl E x σ H fun vs H' => vs.length = n → Q vs H'
theorem mEs_st {sc : Scope} : ∀ (es : Exs) (xs : List PySem.Expr), mEs G N es sc xs = true → xs.all notSt = true
  | .nil, xs, h => by
    unfold mEs at h
    split at h
    · rfl
    · cases h
  | .cons e es, xs, h => by
    unfold mEs at h
    split at h
    · rename_i x r
      rw [Bool.and_eq_true, Bool.and_eq_true] at h
      rw [List.all_cons, h.1.1, mEs_st es r h.2]; rfl
    · cases h
theorem Cok.pass {X : Cx} {sc : Scope} {top : Bool} {E : XK} (C : Cok X N sc top E k G gc cl) : Passes (L2.CX X.prog X.w) X E := fun pins σ H s e s' I c => passes_call C.tk (fun _ _ _ _ h => h) pins σ H s e s' I c
end
theorem posL_get {f : Nat} : ∀ {l : List Nat} {i : Nat}, posL f l = some i → l[i]? = some f
  | [], i, h => by simp [posL] at h
  | x :: r, i, h => by
    simp only [posL] at h
    split at h
    · rename_i hx
      cases h
      rw [Nat.eq_of_beq_eq_true hx]
      rfl
    · obtain ⟨j, hj, rfl⟩ := Option.map_eq_some_iff.mp h
      rw [List.getElem?_cons_succ]
      exact posL_get hj
theorem posL_lt {f : Nat} {l : List Nat} {i : Nat} (h : posL f l = some i) : i < l.length := (List.getElem?_eq_some_iff.mp (posL_get h)).1
section
variable {K : PySem.W.Frag} {S : Sg} {H : Hp} {h : Hq}
theorem RWs.get : ∀ {ds : List Vv} {vs : List V} {i : Nat} {d : Vv}, RWs K S H ds vs → ds[i]? = some d → ∃ v, vs[i]? = some v ∧ RW K S H d v
  | [], vs, i, d, q, e => by simp at e
  | d :: ds, vs, 0, d', q, e => by
    obtain ⟨v, t, rfl, q1, q2⟩ := q
    simp at e; subst e
    exact ⟨v, rfl, q1⟩
  | d :: ds, vs, i + 1, d', q, e => by
    obtain ⟨v, t, rfl, q1, q2⟩ := q
    obtain ⟨w, e1, r⟩ := RWs.get (i := i) (d := d') q2 (by simpa using e)
    exact ⟨w, by simpa using e1, r⟩
theorem fln_mem {c f : Nat} {i : Nat} (h : posL f (cf c) = some i) : fln f ∈ clN c := by
  refine List.mem_append.mpr (.inl (List.mem_map.mpr ⟨f, List.mem_of_getElem? (posL_get h), rfl⟩))
theorem RW.ins (r : RelH K S H h) {v : Vv} {w : V} {c : Nat} (q : RW K S H v w) (e : clsV h v = some c) : ∃ a dx fl, w = .ref a ∧ H a = some (.ins (He.ga K (cnm c)) dx fl) ∧ ClsK K c ∧ ∀ x, x ∉ clN c → fl.lookup x = none := by
  cases v with
  | d y =>
    cases y with
    | obj c' fs =>
      have : c' = c := Option.some.inj e
      subst this
      unfold RW RV at q
      obtain ⟨a, dx, fl, vs, ts, e, t, f, l1, l2, fo, mm, q⟩ := q
      exact ⟨a, dx, fl, e, t, fo.cl, fo.no⟩
    | _ => simp [clsV] at e
  | r n =>
    obtain ⟨a, ea, rfl⟩ := q
    simp only [clsV] at e
    split at e
    · rename_i c' fs m hx
      cases e
      obtain ⟨b, eb, dx, fl, vs, ts, z1, z2, z3, z4, z5, z6, z7⟩ := r.obj n _ hx
      rw [ea] at eb; cases eb
      exact ⟨a, dx, fl, rfl, z1, z4.cl, z4.no⟩
    · cases e
end
section
variable {k : Nat} {G : Nm} {gc : Gc} {cl : Cl} {N : List Str} {X : Cx} {sc : Scope} {top : Bool} {E : XK}
theorem s_fld {a : Ex} {f : Nat} {x : PySem.Expr} {pos : Pos} (he : PE X x (tE X.K X.mg G gc cl E a)) (hb : notCall x = true) : PE X (.Attribute x (fln f) pos) (tE X.K X.mg G gc cl E (.fld a f)) := by
  refine PE.imp (pe_fld he (attrBase hb)) fun σ H Q q => ?_
  obtain ⟨S, e, h, r, re, hb⟩ := q
  unfold evE at hb
  refine stepE r re hb fun a S1 H1 v x1 r1 re1 ra hb1 => ?_
  cases a with
  | d y =>
    cases y with
    | obj c fs =>
      obtain ⟨z, ez, dl⟩ := lfD_ok hb1
      unfold fldL at ez
      obtain ⟨i, ei, ez⟩ := Option.bind_eq_some_iff.mp ez
      unfold RW RV at ra
      obtain ⟨p, dx, fl, vs, ts, rfl, t, _, l1, l2, fo, mm, q⟩ := ra
      obtain ⟨w, ew, rw'⟩ := RVs.get q ez
      exact ⟨p, _, dx, fl, w, rfl, t, fo.cl.1, fo.cl.2 _ (fln_mem ei), fo.fld i f w (posL_get ei) ew, dl S1 w H1 (Ext.refl _ _) r1 rw'⟩
    | _ => exact hb1.elim
  | r n =>
    obtain ⟨p, ea, rfl⟩ := ra
    have hb1 : (match h[n]? with
      | some (.ins c fs _) => (match fldL c f fs with
        | some w => ok w
        | none => .stk)
      | _ => .stk : M Vv).All (Po X.K X.mg G S1 H1 h (qV X.K Q) E) := hb1
    split at hb1
    · rename_i c fs m hx
      split at hb1
      · rename_i w ew
        unfold fldL at ew
        obtain ⟨i, ei, ew⟩ := Option.bind_eq_some_iff.mp ew
        obtain ⟨b, eb, dx, fl, vs, ts, z1, z2, z3, z4, z5, z6, z7⟩ := r1.obj n _ hx
        rw [ea] at eb; cases eb
        obtain ⟨u, eu, ru⟩ := RWs.get z2 ew
        exact ⟨p, _, dx, fl, u, rfl, z1, z4.cl.1, z4.cl.2 _ (fln_mem ei), z4.fld i f u (posL_get ei) eu, hb1 S1 H1 (Ext.refl _ _) r1 u ru⟩
      · exact hb1.elim
    · exact hb1.elim
end
structure Unk (S : Sg) (H : Hp) (p : Addr) : Prop where
  dk : (∃ kvs, H p = some (.dK kvs)) ∨ ∃ o es, H p = some (DicX PWc.P PWc.w p o es)
  na : p ∉ S.as
  nf : ¬ S.fz p
  nt : ¬ S.twA p
  nm : ¬ S.mmA p
section
variable {K : PySem.W.Frag} {S : Sg} {H : Hp} {h : Hq}
theorem Unk.ne {p a : Addr} {u : HO} (z : Unk S H p) (e : H a = some u) (h1 : ∀ kvs, u ≠ .dK kvs) (h2 : ∀ φ, u ≠ .ext φ) : a ≠ p := by
  rintro rfl
  rcases z.dk with ⟨kvs, q⟩ | ⟨o, es, q⟩
  · rw [e] at q
    exact h1 _ (Option.some.inj q)
  · rw [e] at q
    exact h2 _ (Option.some.inj q)
mutual
theorem RV.unk {p : Addr} {o : HO} (z : Unk S H p) : ∀ (d : D) (v : V), RV K S H d v → RV K S (upd H p o) d v
  | .non, v, q => by unfold RV at q ⊢; exact q
  | .bl b, v, q => by unfold RV at q ⊢; exact q
  | .int i, v, q => by unfold RV at q ⊢; exact q
  | .str s, v, q => by unfold RV at q ⊢; exact q
  | .tup ds, v, q => by
    unfold RV at q ⊢
    obtain ⟨a, vs, e, t, q⟩ := q
    refine ⟨a, vs, e, ?_, RVs.unk z ds vs q⟩
    rcases t with (t | ⟨o', t⟩) | t
    · exact .inl (.inl (by rw [upd_ne (z.ne t (fun _ k => nomatch k) (fun _ k => nomatch k))]; exact t))
    · exact .inl (.inr ⟨o', by rw [upd_ne (z.ne t (fun _ k => nomatch k) (fun _ k => nomatch k))]; exact t⟩)
    · exact .inr t
  | .lst ds, v, q => by
    unfold RV at q ⊢
    obtain ⟨a, vs, e, t, f, q⟩ := q
    exact ⟨a, vs, e, by rw [upd_ne (show a ≠ p from fun k => z.nf (by rw [← k]; exact f))]; exact t, f, RVs.unk z ds vs q⟩
  | .opq 0, v, q => by unfold RV at q ⊢; exact q
  | .opq 1, v, q => by unfold RV at q ⊢; exact q
  | .opq (_ + 2), v, q => by unfold RV at q; exact q.elim
  | .obj c fs, v, q => by
    unfold RV at q ⊢
    obtain ⟨a, dx, fl, vs, ts, e, t, f, l1, l2, fo, mm, q⟩ := q
    exact ⟨a, dx, fl, vs, ts, e, by rw [upd_ne (show a ≠ p from fun k => z.nf (by rw [← k]; exact f))]; exact t, f, l1, l2, fo, mm, RVs.unk z fs vs q⟩
  | .dct kvs, v, q => by
    unfold RV at q ⊢
    obtain ⟨a, o', es, vs, e, t, f, k, e2, q⟩ := q
    exact ⟨a, o', es, vs, e, by rw [upd_ne (show a ≠ p from fun k => z.nf (by rw [← k]; exact f))]; exact t, f, k, e2, RVs.unk z kvs vs q⟩
theorem RVs.unk {p : Addr} {o : HO} (z : Unk S H p) : ∀ (ds : List D) (vs : List V), RVs K S H ds vs → RVs K S (upd H p o) ds vs
  | [], vs, q => by unfold RVs at q ⊢; exact q
  | d :: ds, vs, q => by
    unfold RVs at q ⊢
    obtain ⟨v, t, e, q1, q2⟩ := q
    exact ⟨v, t, e, RV.unk z d v q1, RVs.unk z ds t q2⟩
end
theorem RWs.unk {p : Addr} {o : HO} (z : Unk S H p) : ∀ (ds : List Vv) (vs : List V), RWs K S H ds vs → RWs K S (upd H p o) ds vs
  | [], vs, q => q
  | .d x :: ds, vs, q => by
    obtain ⟨v, t, e, q1, q2⟩ := q
    exact ⟨v, t, e, RV.unk z x v q1, RWs.unk z ds t q2⟩
  | .r n :: ds, vs, q => by
    obtain ⟨v, t, e, q1, q2⟩ := q
    exact ⟨v, t, e, q1, RWs.unk z ds t q2⟩
theorem RelH.unk (r : RelH K S H h) {p : Addr} {o : HO} (z : Unk S H p) : RelH K S (upd H p o) h := by
  have ht : LamX.Tabs (tbl K) (upd H p o) := by
    rcases z.dk with ⟨kvs, q⟩ | ⟨o', es, q⟩
    · exact tabs_write r.tab q nt_dK (fun _ z => nomatch z)
    · exact tabs_dicx r.tab q
  refine ⟨r.len, r.nd, fun n ob e => ?_, r.sep, ?_, fun t b e => ?_, fun a m => ?_, ht, fun d j ob m => ?_, r.mmu, r.omm⟩
  · obtain ⟨a, e1, q⟩ := r.obj n ob e
    refine ⟨a, e1, ?_⟩
    have ne : a ≠ p := fun k => z.na (by rw [← k]; exact List.mem_of_getElem? e1)
    cases ob with
    | lst ds =>
      obtain ⟨vs, q1, q2⟩ := q
      exact ⟨vs, by rw [upd_ne ne]; exact q1, RVs.unk z ds vs q2⟩
    | ins c fs m =>
      obtain ⟨dx, fl, vs, ts, q1, q2, q3⟩ := q
      exact ⟨dx, fl, vs, ts, by rw [upd_ne ne]; exact q1, RWs.unk z fs vs q2, q3⟩
    | dct kvs =>
      obtain ⟨o', es, q1, q2, q3⟩ := q
      exact ⟨o', es, by rw [upd_ne ne]; exact q1, q2, RVs.unk z kvs _ q3⟩
    | lsv ws =>
      obtain ⟨vs, q1, q2⟩ := q
      exact ⟨vs, by rw [upd_ne ne]; exact q1, RWs.unk z ws vs q2⟩
    | gone =>
      rcases q with ⟨vs, q⟩ | ⟨o', es, q⟩
      · exact .inl ⟨vs, by rw [upd_ne ne]; exact q⟩
      · exact .inr ⟨o', es, by rw [upd_ne ne]; exact q⟩
  · obtain ⟨ns, l, e⟩ := r.scr
    refine ⟨ns, l, ?_⟩
    rcases e with ⟨o', e⟩ | ⟨e, f⟩ | e
    · exact .inl ⟨o', by rw [upd_ne (z.ne e (fun _ k => nomatch k) (fun _ k => nomatch k))]; exact e⟩
    · exact .inr (.inl ⟨by rw [upd_ne (fun k => z.nf (by rw [← k]; exact f))]; exact e, f⟩)
    · exact .inr (.inr e)
  · obtain ⟨c, rs, h1, h2, h3⟩ := r.twn t b e
    exact ⟨c, rs, by rw [upd_ne (fun k => z.nt ⟨t, b, e, .inl k.symm⟩)]; exact h1, by rw [upd_ne (fun k => z.nt ⟨t, b, e, .inr k.symm⟩)]; exact h2, h3⟩
  · obtain ⟨o', q, n⟩ := r.fzs a m
    exact ⟨o', by rw [upd_ne (show a ≠ p from fun k => z.nf (by rw [← k]; exact m))]; exact q, n⟩
  · obtain ⟨es, h1, h2, h3⟩ := r.mem d j ob m
    refine ⟨es, by rw [upd_ne (fun k => z.nm ⟨j, ob, by rw [← k]; exact m⟩)]; exact h1, h2, fun x hx => ?_⟩
    obtain ⟨kd, vd, z1, z2, z3, z4, z5, z6, z7⟩ := h3 x hx
    exact ⟨kd, vd, z1, z2, z3, RV.unk z kd _ z4, z5, RV.unk z vd _ z6, z7⟩
theorem RelE.unk {p : Addr} {o : HO} (z : Unk S H p) {e : En} {σ : L2.St} (q : RelE K S H e σ) : RelE K S (upd H p o) e σ :=
  ⟨q.len, fun i y e1 => by
    obtain ⟨v, e2, q2⟩ := q.sl i y e1
    refine ⟨v, e2, ?_⟩
    cases y with
    | d x => exact RV.unk z x v q2
    | r n => exact q2⟩
theorem ext_unk {S1 : Sg} {H1 : Hp} {p : Addr} {o o1 : HO} (np : H p = none) (x : Ext S (upd H p o) S1 H1) : Ext S H S1 (upd H1 p o1) where
  as := x.as
  kp := fun a o' e n' => by
    obtain ⟨o2, e2, n2⟩ := x.kp a o' (by rw [upd_ne (ne_of_none e np)]; exact e) n'
    exact ⟨o2, by rw [upd_ne (ne_of_none e np)]; exact e2, n2⟩
  na := fun a o' e n' m => x.na a o' (by rw [upd_ne (ne_of_none e np)]; exact e) n' m
  fz := x.fz
  nf := fun a o' e n' m => x.nf a o' (by rw [upd_ne (ne_of_none e np)]; exact e) n' m
  fr := fun a o' e n' h1 h2 h3 => by rw [upd_ne (ne_of_none e np)]; exact x.fr a o' (by rw [upd_ne (ne_of_none e np)]; exact e) n' h1 h2 h3
  sc := x.sc
  tw := x.tw
  nt := fun a o' e n' m => x.nt a o' (by rw [upd_ne (ne_of_none e np)]; exact e) n' m
  mm := x.mm
  nm := fun a o' e n' m => x.nm a o' (by rw [upd_ne (ne_of_none e np)]; exact e) n' m
  fk := fun a o' e n' h1 h2 h3 => by rw [upd_ne (ne_of_none e np)]; exact x.fk a o' (by rw [upd_ne (ne_of_none e np)]; exact e) n' h1 h2 h3
end
section
variable {K : PySem.W.Frag} {S : Sg} {H : Hp} {h : Hq}
theorem RWs.own {p : Addr} : ∀ (ds : List Vv) (vs : List V), RWs K S H ds vs → RWs K (S.own p) H ds vs
  | [], vs, q => q
  | .d x :: ds, vs, q => by
    obtain ⟨v, t, e, q1, q2⟩ := q
    exact ⟨v, t, e, RV.mono (S := S) (S1 := S.own p) (fun a m => m) rfl (fun _ _ m => m) (fun _ _ _ m => m) x v q1, RWs.own ds t q2⟩
  | .r n :: ds, vs, q => by
    obtain ⟨v, t, e, ⟨a, e1, e2⟩, q2⟩ := q
    refine ⟨v, t, e, ⟨a, ?_, e2⟩, RWs.own ds t q2⟩
    show (S.as ++ [p])[n]? = some a
    rw [List.getElem?_append_left (List.getElem?_eq_some_iff.mp e1).1]
    exact e1
theorem RelH.adopt (r : RelH K S H h) {p : Addr} {ob : Ob} (na : p ∉ S.as) (nf : ¬ S.fz p) (nm : ¬ S.mmA p) (hp : RO K (S.own p) H ob p) : RelH K (S.own p) H (h ++ [ob]) where
  len := by simp [Sg.own, r.len]
  nd := by
    refine List.nodup_append.mpr ⟨r.nd, by simp, fun a m b hb => ?_⟩
    have : b = p := by simpa using hb
    subst this
    rintro rfl
    exact na m
  obj := fun n o e => by
    by_cases hn : n < h.length
    · rw [List.getElem?_append_left hn] at e
      obtain ⟨a, e1, q⟩ := r.obj n o e
      refine ⟨a, ?_, ?_⟩
      · show (S.as ++ [p])[n]? = some a
        rw [List.getElem?_append_left (by rw [r.len]; exact hn)]
        exact e1
      · have mn : ∀ ds vs, RVs K S H ds vs → RVs K (S.own p) H ds vs := RVs.mono (fun a m => m) rfl (fun _ _ m => m) (fun _ _ _ m => m)
        cases o with
        | lst ds =>
          obtain ⟨vs, q1, q2⟩ := q
          exact ⟨vs, q1, mn ds vs q2⟩
        | ins c fs m =>
          obtain ⟨dx, fl, vs, ts, q1, q2, q3⟩ := q
          exact ⟨dx, fl, vs, ts, q1, RWs.own fs vs q2, q3⟩
        | dct kvs =>
          obtain ⟨o', es, q1, q2, q3⟩ := q
          exact ⟨o', es, q1, q2, mn kvs _ q3⟩
        | lsv ws =>
          obtain ⟨vs, q1, q2⟩ := q
          exact ⟨vs, q1, RWs.own ws vs q2⟩
        | gone => exact q
    · have hn2 : n = h.length := by
        have := (List.getElem?_eq_some_iff.mp e).1
        simp at this
        omega
      subst hn2
      rw [List.getElem?_append_right (Nat.le_refl _)] at e
      simp at e
      subst e
      refine ⟨p, ?_, hp⟩
      show (S.as ++ [p])[h.length]? = some p
      rw [← r.len]
      simp
  sep := fun n a o e1 e2 e3 z => by
    have e1 : (S.as ++ [p])[n]? = some a := e1
    by_cases hn : n < h.length
    · rw [List.getElem?_append_left hn] at e2
      rw [List.getElem?_append_left (by rw [r.len]; exact hn)] at e1
      exact r.sep n a o e1 e2 e3 z
    · have : a = p := by
        rw [List.getElem?_append_right (by rw [r.len]; omega)] at e1
        simpa using List.mem_of_getElem? e1
      subst this
      exact nf z
  scr := by
    obtain ⟨ns, l, e⟩ := r.scr
    refine ⟨ns, l, ?_⟩
    rcases e with e | ⟨e, f⟩ | e
    · exact .inl e
    · exact .inr (.inl ⟨e, f⟩)
    · exact .inr (.inr e)
  twn := r.twn
  fzs := r.fzs
  tab := r.tab
  mem := fun d j o m => (r.mem d j o m).scal
  mmu := r.mmu
  omm := fun a m => by
    rcases m with m | m
    · rcases List.mem_append.mp m with m | m
      · exact r.omm a (.inl m)
      · have : a = p := by simpa using m
        subst this
        exact nm
    · exact r.omm a (.inr m)
theorem ext_adopt {S1 : Sg} {H1 : Hp} {p : Addr} (np : H p = none) (x : Ext S H S1 H1) : Ext S H (S1.own p) H1 where
  as := by
    obtain ⟨ns, e⟩ := x.as
    exact ⟨ns ++ [p], by show S1.as ++ [p] = _; rw [e, List.append_assoc]⟩
  kp := x.kp
  na := fun a o e n m => by
    rcases List.mem_append.mp m with m | m
    · exact x.na a o e n m
    · have : a = p := by simpa using m
      subst this
      rw [np] at e; cases e
  fz := x.fz
  nf := x.nf
  fr := x.fr
  sc := x.sc
  tw := x.tw
  nt := x.nt
  mm := x.mm
  nm := x.nm
  fk := x.fk
end
def tMethD {ι : Type} (good : ι → Prop) (C : ι → Addr) (m : Str) (sp : ι → Sp) (E : XK) (ta : TE) (t : TA) : TE := fun σ H Q => ta σ H fun x H1 => ∃ i a dx fs, good i ∧ x = .ref a ∧ H1 a = some (.ins (C i) dx fs) ∧ fs.lookup m = none ∧
  t σ H1 fun vs H2 => sp i (x :: (vs ++ [])) H2 Q E
section
variable {X : Cx} {CX : CXT} {k : Nat} {m : Str} {pos apos : Pos} {e o : PySem.Expr} {es : List PySem.Expr} {ta : TE} {t : TA} {E : XK} {ι : Type} {good : ι → Prop} {C fa : ι → Addr} {fd : ι → FuncData} {ps : ι → List Str} {sp : ι → Sp}
theorem pe_methD {pl : Sem Bool} (he : PE X o ta) (hc : ∀ i, good i → Cls X.K (C i) ∧ Meth X.K (C i) m (fa i) ∧ FnOk X.prog X.w X.K X.mg X.base CX k (fa i) (fd i) (ps i) (sp i) ∧ Binds X.K (fd i) (ps i) []) (hr : Room k X.A) (hx : Passes CX X E) (ha : PA X (e :: es) t)
    (hst : starEach (e :: es) X.env = (false, eval e X.env) :: starEach es X.env) (hpl : (backTo pos (starEach es X.env)).any (·.1) = false)
    (ht : eval (.Call (.Attribute o m apos) (e :: es) [] pos) X.env = (do
      let ov ← eval o X.env
      standAt apos.atName
      let (f, first) ← holding [ov] (getMethod ov m pl)
      callWith pos f first (backTo pos (starEach (e :: es) X.env)) (backToKw pos (keywordEach [] X.env)))) :
    PE X (.Call (.Attribute o m apos) (e :: es) [] pos) (tMethD good C m sp E ta t) := by
  refine ⟨fun pins s σ H Q I h => ?_⟩
  refine PySem.W.methodCall_KW (pl := pl) (thn (he.run pins s σ H _ I h) fun u s1 ⟨x, H1, I1, rx, i, a, dx, fs, gi, ex, ea, l, q⟩ => ?_) ht
  subst ex
  obtain rfl : u = Value.ref a := rx
  obtain ⟨c, hm, F, hb⟩ := hc i gi
  refine getmeth_ok I1 ea c hm l ?_
  refine PySem.W.callWith_K (first := [.ref a]) (h₀ := X.base) I.ok.mod.kin hm.kp (thn (ha.run pos pins s1 σ H1 _ I1 q) fun us s2 ⟨vs, H2, I2, r, q2⟩ => ⟨I2.kIn, ?_⟩) hst hpl
  exact run_fn (us := .ref a :: us) (vs := .ref a :: vs) F hr hb .nil hx I2 (.cons rfl r) q2
theorem pe_methD0 {pl : Sem Bool} (he : PE X o ta) (hc : ∀ i, good i → Cls X.K (C i) ∧ Meth X.K (C i) m (fa i) ∧ FnOk X.prog X.w X.K X.mg X.base CX k (fa i) (fd i) (ps i) (sp i) ∧ Binds X.K (fd i) (ps i) []) (hr : Room k X.A) (hx : Passes CX X E)
    (ht : eval (.Call (.Attribute o m apos) [] [] pos) X.env = (do
      let ov ← eval o X.env
      standAt apos.atName
      let (f, first) ← holding [ov] (getMethod ov m pl)
      callWith pos f first (backTo pos (starEach [] X.env)) (backToKw pos (keywordEach [] X.env)))) :
    PE X (.Call (.Attribute o m apos) [] [] pos) (tMethD good C m sp E ta tNil) := by
  refine ⟨fun pins s σ H Q I h => ?_⟩
  refine PySem.W.methodCall_KW (pl := pl) (thn (he.run pins s σ H _ I h) fun u s1 ⟨x, H1, I1, rx, i, a, dx, fs, gi, ex, ea, l, q⟩ => ?_) ht
  subst ex
  obtain rfl : u = Value.ref a := rx
  obtain ⟨c, hm, F, hb⟩ := hc i gi
  refine getmeth_ok I1 ea c hm l ?_
  exact PySem.W.callWith_K0 (first := [.ref a]) I1.kIn hm.kp (run_fn (us := [.ref a]) (vs := [.ref a]) F hr hb .nil hx I1 (.cons rfl .nil) q)
end
section
variable {k : Nat} {G : Nm} {gc : Gc} {cl : Cl} {N : List Str} {X : Cx} {sc : Scope} {top : Bool} {E : XK}
open Classical in
theorem s_cam (C : Cok X N sc top E k G gc cl) {mi : Nat} {ms : List (Nat × Nat)} {o : Ex} {es : Exs} {x : PySem.Expr} {nm : Str} {ap pp : Pos} {xs : List PySem.Expr}
    (h1 : (ms.all fun q => decide (q ∈ G.mc) && decide (G.fnm q.2 = nm) && decide ((G.fps q.2).length = xs.length + 1) && decide (nm ∉ clN q.1)) = true) (h2 : (ap.endLine == pp.line) = true) (h3 : notCall x = true) (h4 : xs.length < 20)
    (po : PE X x (tE X.K X.mg G gc cl E o)) (pa : PA X xs (tEsL X.K X.mg G gc cl E xs.length es)) (h6 : mEs G N es sc xs = true) : PE X (.Call (.Attribute x nm ap) xs [] pp) (tE X.K X.mg G gc cl E (.cam mi ms o es)) := by
  have hq : ∀ q ∈ ms, q ∈ G.mc ∧ G.fnm q.2 = nm ∧ (G.fps q.2).length = xs.length + 1 ∧ nm ∉ clN q.1 := fun q hq => by
    have := List.all_eq_true.mp h1 q hq
    simp only [Bool.and_eq_true, decide_eq_true_eq] at this
    exact ⟨this.1.1.1, this.1.1.2, this.1.2, this.2⟩
  have hW : ∀ q : Nat × Nat, ∃ (fa : Addr) (fd : FuncData), q ∈ ms → Cls X.K (He.ga X.K (cnm q.1)) ∧ Meth X.K (He.ga X.K (cnm q.1)) nm fa ∧ FnOk X.prog X.w X.K X.mg X.base (L2.CX X.prog X.w) (4 * k) fa fd (G.fps q.2) (spC X.K X.mg G cl q.2) ∧ Binds X.K fd (G.fps q.2) [] := fun q => by
    by_cases hm : q ∈ ms
    · obtain ⟨g1, g2, _, _⟩ := hq q hm
      obtain ⟨fa, fd, m1, m2, m3, m4⟩ := C.W.met q g1
      rw [g2] at m2
      exact ⟨fa, fd, fun _ => ⟨m1.1, m2, m4, m3⟩⟩
    · exact ⟨0, Inhabited.default, fun z => absurd z hm⟩
  have hst := mEs_st es xs h6
  have ht := meth_ht (m := nm) (env := X.env) h3 h2 hst h4
  have fin : ∀ t : TA, (∀ σ H Q, tEsL X.K X.mg G gc cl E xs.length es σ H Q → t σ H Q) → ∀ σ H Q, tE X.K X.mg G gc cl E (.cam mi ms o es) σ H Q → tMethD (fun q : Nat × Nat => q ∈ ms) (fun q => He.ga X.K (cnm q.1)) nm (fun q => spC X.K X.mg G cl q.2) E (tE X.K X.mg G gc cl E o) t σ H Q := fun t ht σ H Q q => by
    obtain ⟨S, e, h, r, re, hb⟩ := q
    unfold evE at hb
    refine stepE r re hb fun a S1 H1 v x1 r1 re1 ra hb1 => ?_
    split at hb1
    · rename_i c ec
      split at hb1
      · rename_i f ef
        obtain ⟨p, dx, fl, rfl, hi, hcl, hno⟩ := RW.ins r1 ra ec
        have hm : (c, f) ∈ ms := by
          clear hb hb1 hq hW h1
          induction ms with
          | nil => simp at ef
          | cons y ys ih =>
            obtain ⟨y1, y2⟩ := y
            rw [List.lookup_cons] at ef
            split at ef
            · rename_i hy
              cases ef
              rw [beq_iff_eq.mp hy]
              exact List.mem_cons_self
            · exact List.mem_cons_of_mem _ (ih ef)
        obtain ⟨_, _, g3, g4⟩ := hq _ hm
        refine ⟨(c, f), p, dx, fl, hm, rfl, hi, hno _ g4, ht _ _ _ ?_⟩
        refine stepEs r1 re1 hb1 fun vs S2 H2 ws x2 r2 re2 rv hb2 hl => ?_
        split at hb2
        · rename_i ds ed
          rw [List.append_nil]
          exact spC_of r2 (vs := a :: vs) ⟨_, _, rfl, RW.ext r1 x2 _ _ ra, rv⟩ ed (by rw [List.length_cons, hl, g3]) hb2
        · exact hb2.elim
      · exact hb1.elim
    · exact hb1.elim
  cases xs with
  | nil =>
    refine PE.imp (pe_methD0 (pl := _) (good := fun q : Nat × Nat => q ∈ ms) (C := fun q => He.ga X.K (cnm q.1)) (fa := fun q => (hW q).choose) (fd := fun q => (hW q).choose_spec.choose) (ps := fun q => G.fps q.2) (sp := fun q => spC X.K X.mg G cl q.2) po (fun q hm => (hW q).choose_spec.choose_spec hm) (C.room.mono (by omega)) C.pass ht) fun σ H Q q => ?_
    refine fin tNil (fun σ H Q z => ?_) σ H Q q
    obtain ⟨S, e, h, r, re, hb⟩ := z
    cases es with
    | nil =>
      unfold evEs at hb
      exact hb S H (Ext.refl S H) r [] rfl rfl
    | cons => simp [mEs] at h6
  | cons y ys =>
    rw [List.all_cons, Bool.and_eq_true] at hst
    exact PE.imp (pe_methD (pl := _) (good := fun q : Nat × Nat => q ∈ ms) (C := fun q => He.ga X.K (cnm q.1)) (fa := fun q => (hW q).choose) (fd := fun q => (hW q).choose_spec.choose) (ps := fun q => G.fps q.2) (sp := fun q => spC X.K X.mg G cl q.2) po (fun q hm => (hW q).choose_spec.choose_spec hm) (C.room.mono (by omega)) C.pass pa (star_cons hst.1) (star_any hst.2) ht) fun σ H Q q => fin _ (fun _ _ _ z => z) σ H Q q
end
section
variable {K : PySem.W.Frag} {mg : Str → Option Value} {G : Nm} {cl : Cl} {E : XK} {S : Sg} {H : Hp} {h : Hq}
theorem spI_of {f c : Nat} {vs : List Vv} {ds : List D} {ws : List V} {Q : VK} {x dx : Addr} (r : RelH K S H h) (rv : RWs K S H vs ws) (e : rdVs h vs = some ds) (hl : ws.length + 1 = (G.fps f).length) (hx : H x = none) (hdx : H dx = none) (hne : dx ≠ x)
    (hb : (bnd (cl f ds) fun d => match !anyR vs || isScal d with
      | true => ok (Vv.d d)
      | false => .stk).All (Po K mg G S H h (qV K Q) E)) : spI K mg G cl f c (.ref x :: ws) (upd (upd H dx (.own x)) x (.ins (He.ga K (cnm c)) dx [])) (fun v H2 => v = .non ∧ Q (.ref x) H2) E := by
  refine ⟨by rw [List.length_cons, hl], x, dx, ws, S.callee (anyR vs), ds, H, rfl, hx, hdx, hne, rfl, rfl, r.callee _, RWs.callee r (fun z => z) rv e, F.All.imp (fun y p => ?_) (bnd_all hb)⟩
  cases y with
  | ok d =>
    intro S' H' x' has r1 q
    have p : (match !anyR vs || isScal d with | true => ok (Vv.d d) | false => .stk).All (Po K mg G S H h (qV K Q) E) := p
    split at p
    · rename_i hd
      exact ⟨rfl, okD p _ _ _ (ext_back x') (r.back x' r1) (RV.back x' hd q)⟩
    · exact p.elim
  | ex c =>
    intro S' H' x' has r1
    exact p _ _ (ext_back x') (r.back x' r1)
end
section
variable {k : Nat} {G : Nm} {gc : Gc} {cl : Cl} {N : List Str} {X : Cx} {sc : Scope} {top : Bool} {E : XK}
theorem s_mak (C : Cok X N sc top E k G gc cl) {f : Nat} {es : Exs} {x : Str} {p1 pp : Pos} {y : PySem.Expr} {ys : List PySem.Expr} (h1 : f ∈ G.mi) (h2 : G.fnm f = x) (h3 : glb sc x = true) (h4 : nodbg x = true) (h5 : (G.fps f).length = ys.length + 2)
    (pa : PA X (y :: ys) (tEsL X.K X.mg G gc cl E (y :: ys).length es)) (h6 : mEs G N es sc (y :: ys) = true) : PE X (.Call (.Name x p1) (y :: ys) [] pp) (tE X.K X.mg G gc cl E (.mak f es)) := by
  obtain ⟨fa, fd, m1, m2, m3, m4, m5⟩ := C.W.mks f h1
  rw [h2] at m1
  have hst := mEs_st es (y :: ys) h6
  rw [List.all_cons, Bool.and_eq_true] at hst
  refine PE.imp (pe_make m3 m5 C.room (C.gl h3) m1 m4 .nil C.pass pa (nodbg_ok h4).1 (star_cons hst.1) (star_any hst.2)) fun σ H Q q => ?_
  obtain ⟨S, e, h, r, re, hb⟩ := q
  unfold evE at hb
  refine stepEs r re hb fun vs S1 H1 ws x1 r1 re1 ra hb1 hl => ?_
  intro a dx ha hdx hne
  split at hb1
  · rename_i ds ed
    rw [List.append_nil]
    exact spI_of r1 ra ed (by rw [hl, h5, List.length_cons]) ha hdx hne hb1
  · exact hb1.elim
end
section
variable {k : Nat} {G : Nm} {gc : Gc} {cl : Cl} {N : List Str} {X : Cx} {sc : Scope} {top : Bool} {E : XK}
theorem str_ne {s t : List Nat} (h : s ≠ t) : (⟨s.toArray⟩ : Str) ≠ ⟨t.toArray⟩ := fun e => h (arr_inj e)
theorem key_ne {s t : List Nat} (h : s ≠ t) : (Sum.inr (⟨s.toArray⟩ : Str) : Key) ≠ Sum.inr ⟨t.toArray⟩ := fun e => str_ne h (Sum.inr.inj e)
theorem merge3 {a b c : Key} {x y z : V} (h1 : a ≠ b) (h2 : a ≠ c) (h3 : b ≠ c) : mergeK [] [(a, x), (b, y), (c, z)] = [(a, x), (b, y), (c, z)] := by
  simp [mergeK, putK, h1, h2, h3]
theorem stepU {β : Type} {K : PySem.W.Frag} {mg : Str → Option Value} {S0 S : Sg} {H0 H : Hp} {h : Hq} {e : En} {σ : L2.St} {q : Sg → Hp → β → Prop} {x : Ex} {f : Vv → M β} {R : VK} (x0 : Ext S0 H0 S H) (r : RelH K S H h) (re : RelE K S H e σ) (hb : (bnd (evE gc cl x e h) f).All (Po K mg G S0 H0 h q E))
    (k : ∀ a S1 H1 v, Ext S H S1 H1 → RelH K S1 H1 h → RelE K S1 H1 e σ → RW K S1 H1 a v → (f a).All (Po K mg G S0 H0 h q E) → R v H1) : tE K mg G gc cl E x σ H R := by
  refine ⟨S, e, h, r, re, F.All.imp (fun y p => ?_) (bnd_all hb)⟩
  cases y with
  | ok a => exact fun S' H' x' r' v rv => k a S' H' v x' r' (re.ext r x') rv p
  | ex c => exact fun S' H' x' r' => p S' H' (x0.trans x') r'
theorem s_dl3 (C : Cok X N sc top E k G gc cl) {k1 k2 k3 : List Nat} {a b c i : Ex} {va vb vc s : PySem.Expr} {m1 m2 m3 : Nat} {p1 p2 p3 p4 p5 : Pos} (h1 : k1 ≠ k2) (h2 : k1 ≠ k3) (h3 : k2 ≠ k3) (hs : notSlc s = true)
    (pa : PE X va (tE X.K X.mg G gc cl E a)) (pb : PE X vb (tE X.K X.mg G gc cl E b)) (pc : PE X vc (tE X.K X.mg G gc cl E c)) (pi : PE X s (tE X.K X.mg G gc cl E i)) :
    PE X (.Subscript (.Dict [some (.Constant (.str ⟨k1.toArray⟩) m1 p1), some (.Constant (.str ⟨k2.toArray⟩) m2 p2), some (.Constant (.str ⟨k3.toArray⟩) m3 p3)] [va, vb, vc] p4) s p5) (tE X.K X.mg G gc cl E (.dl3 k1 k2 k3 a b c i)) := by
  have hu : X.A.units + 1 < cLine := hu_of C.room
  refine PE.imp (pe_dget hu (pe_disp (pps_cons pe_str pa (pps_cons pe_str pb (pps_cons pe_str pc pps_nil))) rfl rfl (by simp) (by simp)) pi (plainIx hs)) fun σ H Q q => ?_
  obtain ⟨S, e, h, r, re, hb⟩ := q
  unfold evE at hb
  intro p hp
  have xn : Ext S H S (upd H p (.dK [])) := ext_new hp
  have rn : RelH X.K S (upd H p (.dK [])) h := r.new hp
  refine stepU xn rn (re.ext r xn) hb fun a S1 H1 v1 x1 r1 re1 ra hb1 => ?_
  refine stepU (xn.trans x1) r1 re1 hb1 fun b S2 H2 v2 x2 r2 re2 rb hb2 => ?_
  refine stepU ((xn.trans x1).trans x2) r2 re2 hb2 fun c S3 H3 v3 x3 r3 re3 rc hb3 => ?_
  have xx : Ext S (upd H p (.dK [])) S3 H3 := (x1.trans x2).trans x3
  have z0 : p ∉ S.as := fun m => by
    obtain ⟨o, q, _⟩ := r.own_at m
    rw [hp] at q; cases q
  have z1 : ¬ S.fz p := fun m => by
    obtain ⟨o, q, _⟩ := r.fzs p m
    rw [hp] at q; cases q
  have z2 : ¬ S.twA p := fun m => by
    obtain ⟨kvs, q⟩ := r.notTw m
    rw [hp] at q; cases q
  have z3 : ¬ S.mmA p := fun m => by
    obtain ⟨kvs, q⟩ := r.notMm m
    rw [hp] at q; cases q
  have e3 : H3 p = some (.dK []) := xx.fr p _ upd_same nt_dK z0 z2 z3
  have un : Unk S3 H3 p := ⟨.inl ⟨_, e3⟩, fun m => z0 (xx.na p _ upd_same nt_dK m), fun m => (by
    rcases xx.nf p _ upd_same nt_dK m with m | m
    · exact z1 m
    · exact z0 m), fun m => z2 (xx.nt p _ upd_same nt_dK m), fun m => z3 (xx.nm p _ upd_same nt_dK m)⟩
  refine ⟨e3, [(Sum.inr ⟨k1.toArray⟩, v1), (Sum.inr ⟨k2.toArray⟩, v2), (Sum.inr ⟨k3.toArray⟩, v3)], rfl, by show 3 ≤ 15; decide, ?_⟩
  rw [merge3 (key_ne h1) (key_ne h2) (key_ne h3)]
  have r4 := r3.unk (o := .dK [(Sum.inr ⟨k1.toArray⟩, v1), (Sum.inr ⟨k2.toArray⟩, v2), (Sum.inr ⟨k3.toArray⟩, v3)]) un
  have re4 := RelE.unk (o := .dK [(Sum.inr ⟨k1.toArray⟩, v1), (Sum.inr ⟨k2.toArray⟩, v2), (Sum.inr ⟨k3.toArray⟩, v3)]) un re3
  have x4 : Ext S H S3 (upd H3 p (.dK [(Sum.inr ⟨k1.toArray⟩, v1), (Sum.inr ⟨k2.toArray⟩, v2), (Sum.inr ⟨k3.toArray⟩, v3)])) := ext_unk hp xx
  have mz : ¬ S3.mmA p := fun m => z3 (xx.nm p _ upd_same nt_dK m)
  refine stepU x4 r4 re4 hb3 fun w S5 H5 vw x5 r5 re5 rw' hb5 => ?_
  split at hb5
  · rename_i dx dy dz st
    obtain ⟨zz, ez, dl⟩ := lfD_ok hb5
    have ew : vw = .str ⟨st.toArray⟩ := by have := rw'; unfold RW RV at this; exact this
    subst ew
    have e5 : H5 p = some (.dK [(Sum.inr ⟨k1.toArray⟩, v1), (Sum.inr ⟨k2.toArray⟩, v2), (Sum.inr ⟨k3.toArray⟩, v3)]) := x5.fr p _ upd_same nt_dK un.na un.nt mz
    have x45 := x4.trans x5
    have g := DGet.k (k := Sum.inr (⟨st.toArray⟩ : Str)) e5
    have up : ∀ {S' : Sg} {H' : Hp} {d : D} {v : V}, Ext S' H' S3 H3 → RelH X.K S' H' h → RV X.K S' H' d v → RV X.K S5 H5 d v := fun {S' H' d v} xe re' q => RV.ext r4 x5 d v (RV.unk un d v (RV.ext re' xe d v q))
    have ra' : RV X.K S1 H1 dx v1 := ra
    have rb' : RV X.K S2 H2 dy v2 := rb
    have rc' : RV X.K S3 H3 dz v3 := rc
    unfold look3 at ez
    by_cases c1 : st = k1
    · subst c1
      rw [if_pos rfl] at ez
      cases ez
      refine ⟨p, v1, rfl, ?_, dl S5 v1 H5 x45 r5 (up (x2.trans x3) r1 ra')⟩
      have : valV [((Sum.inr ⟨st.toArray⟩ : Key), v1), (Sum.inr ⟨k2.toArray⟩, v2), (Sum.inr ⟨k3.toArray⟩, v3)] (Sum.inr ⟨st.toArray⟩) = some v1 := valV_pos rfl
      rw [this] at g
      exact g
    · rw [if_neg c1] at ez
      by_cases c2 : st = k2
      · subst c2
        rw [if_pos rfl] at ez
        cases ez
        refine ⟨p, v2, rfl, ?_, dl S5 v2 H5 x45 r5 (up x3 r2 rb')⟩
        have : valV [((Sum.inr ⟨k1.toArray⟩ : Key), v1), (Sum.inr ⟨st.toArray⟩, v2), (Sum.inr ⟨k3.toArray⟩, v3)] (Sum.inr ⟨st.toArray⟩) = some v2 := (valV_neg (key_ne h1)).trans (valV_pos rfl)
        rw [this] at g
        exact g
      · rw [if_neg c2] at ez
        by_cases c3 : st = k3
        · subst c3
          rw [if_pos rfl] at ez
          cases ez
          refine ⟨p, v3, rfl, ?_, dl S5 v3 H5 x45 r5 (up (Ext.refl _ _) r3 rc')⟩
          have : valV [((Sum.inr ⟨k1.toArray⟩ : Key), v1), (Sum.inr ⟨k2.toArray⟩, v2), (Sum.inr ⟨st.toArray⟩, v3)] (Sum.inr ⟨st.toArray⟩) = some v3 := (valV_neg (key_ne h2)).trans ((valV_neg (key_ne h3)).trans (valV_pos rfl))
          rw [this] at g
          exact g
        · rw [if_neg c3] at ez
          cases ez
  · exact hb5.elim
end
end Bk
namespace Bk
open PySem PySem.Spec PyProof.Rows L2
variable [MF] [PWc]
section
variable {K : PySem.W.Frag} {S S1 : Sg} {H H1 : Hp} {h h1 : Hq}
def Sg.mrg (S S1 : Sg) : Sg := { as := S.as ++ S1.as, fz := fun a => S.fz a ∨ S1.fz a, sc := S.sc, tw := S1.tw, mm := S1.mm }
theorem ext_mrg (x : Ext (S.callee false) H S1 H1) : Ext S H (S.mrg S1) H1 where
  as := ⟨S1.as, rfl⟩
  kp := x.kp
  na := fun a o e n m => by
    rcases List.mem_append.mp m with m | m
    · exact m
    · have := x.na a o e n m
      cases this
  fz := fun a m => .inl m
  nf := fun a o e n m => by
    rcases m with m | m
    · exact .inl m
    · rcases x.nf a o e n m with (m | ⟨hc, _⟩) | m
      · exact .inl m
      · cases hc
      · cases m
  fr := fun a o e n h1 h2 h3 => x.fr a o e n (by simp [Sg.callee]) h2 h3
  sc := rfl
  tw := x.tw
  nt := x.nt
  mm := x.mm
  nm := x.nm
  fk := fun a o e n h1 h2 h3 => x.fk a o e n (.inl h1) h2 h3
theorem RWs.shift {k : Nat} (hk : S.as.length = k) (hf : ∀ a, S1.fz a → (S.mrg S1).fz a) (hs : (S.mrg S1).sc = S1.sc) : ∀ {fs : List Vv} {vs : List V}, RWs K S1 H1 fs vs → RWs K (S.mrg S1) H1 (fs.map (shV k)) vs
  | [], vs, q => q
  | .d x :: r, vs, q => by
    obtain ⟨v, t, e, q1, q2⟩ := q
    exact ⟨v, t, e, RV.mono (S := S1) (S1 := S.mrg S1) hf hs (fun _ _ m => m) (fun _ _ _ m => m) x v q1, RWs.shift hk hf hs q2⟩
  | .r n :: r, vs, q => by
    obtain ⟨v, t, e, ⟨a, e1, e2⟩, q2⟩ := q
    refine ⟨v, t, e, ⟨a, ?_, e2⟩, RWs.shift hk hf hs q2⟩
    show (S.as ++ S1.as)[k + n]? = some a
    rw [List.getElem?_append_right (by omega), hk, Nat.add_sub_cancel_left]
    exact e1
theorem dats_sh {k : Nat} : ∀ {fs : List Vv} {ds : List D}, dats0 fs = some ds → dats0 (fs.map (shV k)) = some ds
  | [], ds, e => e
  | .d x :: r, ds, e => by
    simp only [dats0] at e
    obtain ⟨ds', e1, rfl⟩ := Option.map_eq_some_iff.mp e
    simp [dats0, shV, dats_sh e1]
  | .r n :: r, ds, e => by simp [dats0] at e
theorem RelH.mrg (r : RelH K S H h) (x : Ext (S.callee false) H S1 H1) (r1 : RelH K S1 H1 h1) : RelH K (S.mrg S1) H1 (h ++ h1.map (shO h.length)) := by
  have xb := ext_mrg x
  have hsc : (S.mrg S1).sc = S1.sc := (show S.sc = S1.sc from x.sc.symm)
  have hfz : ∀ a, S1.fz a → (S.mrg S1).fz a := fun a m => .inr m
  have keepA : ∀ a ∈ S.as, H1 a = H a := fun a m => by
    obtain ⟨o, q, n⟩ := r.own_at m
    rw [q]
    exact x.fr a _ q n (by simp [Sg.callee]) (fun z => r.own_tw m z) (fun z => r.own_mm m z)
  have dis : ∀ a ∈ S.as, a ∉ S1.as := fun a m m1 => by
    obtain ⟨o, q, n⟩ := r.own_at m
    have := x.na a o q n m1
    cases this
  refine ⟨by simp [Sg.mrg, r.len, r1.len], List.nodup_append.mpr ⟨r.nd, r1.nd, fun a m b m1 e => dis a m (by rw [e]; exact m1)⟩, fun n o e => ?_, fun n a o e1 e2 e3 z => ?_, r.keepS xb r.scr, r1.twn, fun a m => ?_, r1.tab, fun d j o m => (r1.mem d j o m).scal, r1.mmu, fun a m => ?_⟩
  · by_cases hn : n < h.length
    · rw [List.getElem?_append_left hn] at e
      exact r.mapO xb keepA e
    · rw [List.getElem?_append_right (by omega), List.getElem?_map] at e
      obtain ⟨ob, e1, rfl⟩ := Option.map_eq_some_iff.mp e
      obtain ⟨a, ea, q⟩ := r1.obj _ ob e1
      refine ⟨a, ?_, ?_⟩
      · show (S.as ++ S1.as)[n]? = some a
        rw [List.getElem?_append_right (by rw [r.len]; omega), r.len]
        exact ea
      · cases ob with
        | lst ds =>
          obtain ⟨vs, q1, q2⟩ := q
          exact ⟨vs, q1, RVs.mono (S := S1) (S1 := S.mrg S1) hfz hsc (fun _ _ m => m) (fun _ _ _ m => m) ds vs q2⟩
        | ins c fs m =>
          obtain ⟨dx, fl, vs, ts, q1, q2, q3, q4, q5, q6, q7⟩ := q
          refine ⟨dx, fl, vs, ts, q1, RWs.shift r.len hfz hsc q2, q3, q4, by rw [List.length_map]; exact q5, q6, fun j d e => ?_⟩
          obtain ⟨ds, z1, z2⟩ := q7 j d e
          exact ⟨ds, dats_sh z1, z2⟩
        | dct kvs =>
          obtain ⟨o', es, q1, q2, q3⟩ := q
          exact ⟨o', es, q1, q2, RVs.mono (S := S1) (S1 := S.mrg S1) hfz hsc (fun _ _ m => m) (fun _ _ _ m => m) kvs _ q3⟩
        | lsv ws =>
          obtain ⟨vs, q1, q2⟩ := q
          exact ⟨vs, q1, RWs.shift r.len hfz hsc q2⟩
        | gone => exact q
  · have e1 : (S.as ++ S1.as)[n]? = some a := e1
    by_cases hn : n < h.length
    · rw [List.getElem?_append_left hn] at e2
      rw [List.getElem?_append_left (by rw [r.len]; exact hn)] at e1
      rcases z with z | z
      · exact r.sep n a o e1 e2 e3 z
      · obtain ⟨o', q, n'⟩ := r.own_at (List.mem_of_getElem? e1)
        rcases x.nf a o' q n' z with (z | ⟨hc, _⟩) | z
        · exact r.sep n a o e1 e2 e3 z
        · cases hc
        · cases z
    · rw [List.getElem?_append_right (by omega), List.getElem?_map] at e2
      rw [List.getElem?_append_right (by rw [r.len]; omega), r.len] at e1
      obtain ⟨ob, e4, rfl⟩ := Option.map_eq_some_iff.mp e2
      have lv : ob.live = true := by cases ob <;> first | rfl | cases e3
      rcases z with z | z
      · exact r1.sep _ a ob e1 e4 lv (x.fz a (.inl z))
      · exact r1.sep _ a ob e1 e4 lv z
  · rcases m with m | m
    · obtain ⟨o, q, n⟩ := r.fzs a m
      exact x.kp a o q n
    · exact r1.fzs a m
  · rcases m with m | m | m
    · rcases List.mem_append.mp m with m | m
      · obtain ⟨o', q, n⟩ := r.own_at m
        exact fun z => r.own_mm m (x.nm a _ q n z)
      · exact r1.omm a (.inl m)
    · obtain ⟨o', q, n⟩ := r.fzs a m
      exact fun z => r.omm a (.inr m) (x.nm a _ q n z)
    · exact r1.omm a (.inr m)
end
end Bk
namespace Bk
open PySem PySem.Spec PyProof.Rows L2
variable [MF] [PWc]
section
variable {prog : Program} {w : World} {A : Around} {E : Value → Shared → Prop} {s : Shared} {K : PySem.W.Frag} {x C L f : Addr} {h₀ : Heap} {m : Str → Option Value} {ox : Obj} {od : Option Obj} {name : Str} {b tb : Value}
theorem ifBound_B {M : Model} {T id : String} {args : List Value} {Q : Option Value → Shared → Prop} (S : PySem.Slot T name id) (X : K.In s.heap) (I : PySem.W.InstAt s.heap x ox C od) (hs : PySem.W.findIn K (.ref C) name = some (some (.builtin id)))
    (h : wpAny M A (call (.builtin id) (.ref x :: args)) (fun v => Q (some v)) E s) : wpAny M A (callSpecialIfBound? (.ref x) name args) Q E s := by
  simp only [callSpecialIfBound?, bindSpecialIfBound?]
  refine wpAny_holding (wpAny_bind (wpAny_bind (wpAny_bind (I.type.here ((PySem.W.looks_findIn X hs).here ?_)))))
  refine wpAny_bind (wpAny_askSetting (wpAny_ite ?_))
  have fin : wpAny M A (call (.builtin id) ([.ref x] ++ args) >>= fun v => pure (some v)) Q E s := wpAny_bind (wpAny_mono h (fun v s' h' => wpAny_pure h') fun _ _ h' => h')
  simp only [S.bind]
  split
  · exact wpAny_bind (wpAny_pure (wpAny_pure (by exact fin)))
  · exact wpAny_tryCatch (wpAny_bind (wpAny_pure (wpAny_pure (by exact fin))))
theorem ne_K {Q : Value → Shared → Prop} (hu : A.units + 1 < cLine) (F : Fr h₀ L s.heap m) (X₀ : K.In h₀) (I : PySem.W.InstAt s.heap x ox C od) (hb : PySem.W.Looks (model prog w) s.heap (typeOf b) tb) (hn : PySem.W.notFirst K C tb = true)
    (hs : PySem.W.findIn K (.ref C) "__eq__" = some (some (.ref f))) (hf : PySem.W.isFn K (.ref f) = true) (hne : PySem.W.findIn K (.ref C) "__ne__" = some (some (.builtin "object.__ne__"))) (hob : PySem.W.subIn K (.ref C) (.type "object") = some true)
    (h : wpAny (model prog w) A.in1 (call (.ref f) [.ref x, b]) (fun v s' => ∃ k, v = .bool k ∧ Q (.bool (!k)) s') E s) : wpAny (model prog w) A (richCompare .NotEq (.ref x) b) Q E s := by
  have X := X₀.keeps F.keep
  have hu0 : A.units < cLine := Nat.lt_of_succ_lt hu
  have one : wpAny (model prog w) A (tryCompare (.ref x) "__ne__" b) (fun r s' => ∃ v, r = some v ∧ Q v s') E s := by
    unfold tryCompare
    refine wpAny_bind (ifBound_B PySem.F.cmp_object.ne X I hne ?_)
    refine wpAny_call (codeAny_call_builtin PySem.F.cmp_object.ne.plain PySem.F.cmpEntry_ne ?_)
    refine PySem.W.check_slot PySem.F.cmpKind_ne PySem.F.cmpSplit_ne (I.type.andThen (PySem.W.looks_subIn X hob)) (PySem.F.cmpArgs_ne _ _) ?_
    show wpAny (model prog w) A.in1 (Builtin.«object.__ne__» ⟨[.ref x, b], []⟩) _ _ s
    unfold Builtin.«object.__ne__»
    refine wpAny_bind (wpAny_pure ?_)
    refine wpAny_bind (wpAny_cRoomFor hu ?_)
    refine wpAny_bind (PySem.W.ifBound_K X I hs hf (wpAny_mono h (fun v s' hv => ?_) fun _ _ e => e))
    obtain ⟨k, rfl, hq⟩ := hv
    refine wpAny_bind (wpAny_truthy_bool ?_)
    exact wpAny_pure (wpAny_pure ⟨_, rfl, hq⟩)
  unfold richCompare
  simp only [oneThing_ref]
  refine wpAny_holding (wpAny_bind (wpAny_cRoomFor hu0 ?_))
  refine wpAny_bind (I.type.here (wpAny_bind (hb.here ?_)))
  split
  · rename_i q
    have e : PySem.W.subIn K tb (.ref C) = some false := by
      rcases Bool.or_eq_true_iff.mp hn with e | e
      · rw [beq_iff_eq.mp e] at q; simp at q
      · exact beq_iff_eq.mp e
    refine wpAny_bind ((PySem.W.looks_subIn X e).here ?_)
    simp only [Bool.false_eq_true, if_false]
    refine wpAny_bind (wpAny_mono one (fun r s' z => ?_) fun _ _ e => e)
    obtain ⟨v, rfl, hq⟩ := z
    exact wpAny_pure hq
  · refine wpAny_bind (wpAny_pure ?_)
    simp only [Bool.false_eq_true, if_false]
    refine wpAny_bind (wpAny_mono one (fun r s' z => ?_) fun _ _ e => e)
    obtain ⟨v, rfl, hq⟩ := z
    exact wpAny_pure hq
end
section
variable {X : Cx} {CX : CXT} {n : Nat} {E : XK}
theorem call_below {A : Around} {f : Addr} {fd : FuncData} {ps : List Str} {sp : Sp} {pins : List (Addr × Obj)} {σ : L2.St} {H : Hp} {s : Shared} {us : List Value} {vs : List V} {Q : VK} (hr : Room n A) (fr : A.frames = X.A.frames) (F : FnOk X.prog X.w X.K X.mg X.base CX n f fd ps sp) (hb : Binds X.K fd ps []) (hx : Passes CX X E) (I : Inv X pins σ H s) (r : Vals vs us) (h : sp vs H Q E) :
    wpAny (model X.prog X.w) A (call (.ref f) us) (EP X pins σ Q) X.xe s := by
  have e0 : Env0 X.prog X.w X.K X.mg X.base A X.stack s H := by
    have e := I.env0
    exact ⟨by rw [fr]; exact e.frames, e.mod, e.bs, e.bsz, e.funs, e.frf, e.hok, e.bare⟩
  have hl := F.len _ _ _ _ h
  refine wpAny_call (codeAny_mono (F.run A X.stack s H ⟨us, []⟩ us vs Q E hr e0 (by
    have := hb s us I.kIn (by rw [List.append_nil, ← r.length]; exact hl)
    simpa using this) r h) fun r s' hq => ?_)
  cases r with
  | error e => exact hx pins σ H s e s' I hq
  | ok fl =>
    cases fl with
    | ret w => exact I.after hq
    | next => exact False.elim hq
    | brk => exact False.elim hq
    | cont => exact False.elim hq
variable {ι : Type} {good : ι → Prop} {C fa : ι → Addr} {fd : ι → FuncData} {ps : ι → List Str} {sp : ι → Sp}
def rOln (good : ι → Prop) (C : ι → Addr) (sp : ι → Sp) (E : XK) : List V → Hp → VK → Prop := fun xs H Q => ∃ i a dx fl, good i ∧ xs = [.ref a] ∧ H a = some (.ins (C i) dx fl) ∧ sp i [.ref a] H (fun v H' => ∃ n : Int, v = .int n ∧ (0 ≤ n ∧ n ≤ 1000000) ∧ Q (.int n) H') E
theorem call_oln (hc : ∀ i, good i → Meth X.K (C i) "__len__" (fa i) ∧ FnOk X.prog X.w X.K X.mg X.base CX n (fa i) (fd i) (ps i) (sp i) ∧ Binds X.K (fd i) (ps i) []) (hr : Room (n + 1) X.A) (hx : Passes CX X E) : CallR X (.builtin "len") (rOln good C sp E) := by
  intro pins s σ H xs us Q I r h
  obtain ⟨i, a, dx, fl, gi, rfl, ha, q⟩ := h
  obtain ⟨u, rfl, ru⟩ := vals1 r
  cases (show u = Value.ref a from ru)
  obtain ⟨hm, F, hb⟩ := hc i gi
  obtain ⟨mA, J, _⟩ := ins_get I.hok ha
  obtain ⟨od, J, _⟩ := J.look
  obtain ⟨m, hF⟩ := I.fr
  refine PySem.W.len_K hF I.ok.mod.kin J hm.at_ hm.fn (wpAny_mono (call_below (A := X.A.in1) (vs := [.ref a]) hr.in1 rfl F hb hx I (.cons rfl .nil) q) (fun v s' z => ?_) fun _ _ e => e)
  obtain ⟨y, H', I', ry, k, rfl, hk, hq⟩ := z
  obtain ⟨t, rfl⟩ := ry
  exact ⟨⟨hk.1, by omega⟩, .int k, H', I'.tok _, ⟨_, rfl⟩, hq⟩
def rOeq (ng : Bool) (good : ι → Prop) (C : ι → Addr) (sp : ι → Sp) (E : XK) : R2 := fun x y H Q => ∃ i a dx fl, good i ∧ x = .ref a ∧ H a = some (.ins (C i) dx fl) ∧ ((∃ b dy gl, y = .ref b ∧ H b = some (.ins (C i) dy gl)) ∨ ∃ z, y = .str z) ∧ sp i [x, y] H (fun v H' => ∃ k, v = .bl k ∧ Q (.bl (k != ng)) H') E
theorem op_oeq (ng : Bool) (hc : ∀ i, good i → Meth X.K (C i) "__eq__" (fa i) ∧ FnOk X.prog X.w X.K X.mg X.base CX n (fa i) (fd i) (ps i) (sp i) ∧ Binds X.K (fd i) (ps i) [] ∧ PySem.W.findIn X.K (.ref (C i)) "__ne__" = some (some (.builtin "object.__ne__")) ∧ PySem.W.subIn X.K (.ref (C i)) (.type "object") = some true ∧ PySem.W.subIn X.K (.type "str") (.ref (C i)) = some false)
    (hr : Room (n + 1) X.A) (hx : Passes CX X E) : OpR X (compareOp (if ng then .NotEq else .Eq)) (rOeq ng good C sp E) := by
  intro pins s σ H x y v u Q I rx ry h
  obtain ⟨i, a, dx, fl, gi, rfl, ha, hy, q⟩ := h
  cases (show v = Value.ref a from rx)
  obtain ⟨hm, F, hb, hne, hob, hsb⟩ := hc i gi
  obtain ⟨mA, J, _⟩ := ins_get I.hok ha
  obtain ⟨od, J, _⟩ := J.look
  obtain ⟨m, hF⟩ := I.fr
  have hty : ∃ tb, PySem.W.Looks (model X.prog X.w) s.heap (typeOf u) tb ∧ PySem.W.notFirst X.K (C i) tb = true := by
    rcases hy with ⟨b, dy, gl, rfl, hb'⟩ | ⟨z, rfl⟩
    · cases (show u = Value.ref b from ry)
      obtain ⟨mB, J', _⟩ := ins_get I.hok hb'
      obtain ⟨od', J', _⟩ := J'.look
      exact ⟨.ref (C i), J'.type, by simp [PySem.W.notFirst]⟩
    · obtain ⟨t, rfl⟩ := id ry
      exact ⟨.type "str", .now, by unfold PySem.W.notFirst; rw [hsb]; simp⟩
  obtain ⟨tb, hl, hn⟩ := hty
  have r2 : Vals [V.ref a, y] [Value.ref a, u] := .cons rfl (.cons ry .nil)
  cases ng with
  | false =>
    show wpAny (model X.prog X.w) X.A (richCompare .Eq (.ref a) u) (EP X pins σ Q) X.xe s
    refine PySem.W.cmp_K (op := .Eq) hr.units0 hF I.ok.mod.kin J hl hn hm.at_ hm.fn (wpAny_mono (call_below (A := X.A) (hr.mono (Nat.le_succ _)) rfl F hb hx I r2 q) (fun v s' z => ?_) fun _ _ e => e)
    obtain ⟨y', H', I', ry', k, rfl, hq⟩ := z
    cases (show v = Value.bool k from ry')
    rw [Bool.bne_false] at hq
    exact ⟨.bl k, H', I', rfl, hq⟩
  | true =>
    show wpAny (model X.prog X.w) X.A (richCompare .NotEq (.ref a) u) (EP X pins σ Q) X.xe s
    refine ne_K hr.in1.units0 hF I.ok.mod.kin J hl hn hm.at_ hm.fn hne hob (wpAny_mono (call_below (A := X.A.in1) hr.in1 rfl F hb hx I r2 q) (fun v s' z => ?_) fun _ _ e => e)
    obtain ⟨y', H', I', ry', k, rfl, hq⟩ := z
    cases (show v = Value.bool k from ry')
    rw [Bool.bne_true] at hq
    exact ⟨k, rfl, .bl (!k), H', I', rfl, hq⟩
end
theorem bnd_assoc {α β γ : Type} {m : M α} {f : α → M β} {g : β → M γ} : bnd (bnd m f) g = bnd m fun a => bnd (f a) g := by
  unfold bnd
  rw [F.bind_assoc]
  congr 1
  funext r
  cases r <;> rfl
section
variable {k : Nat} {G : Nm} {gc : Gc} {cl : Cl} {N : List Str} {X : Cx} {sc : Scope} {top : Bool} {E : XK}
theorem lookup_mem {c f : Nat} : ∀ {ms : List (Nat × Nat)}, ms.lookup c = some f → (c, f) ∈ ms
  | [], h => by simp at h
  | (a, b) :: r, h => by
    rw [List.lookup_cons] at h
    split at h
    · rename_i hy
      cases h
      rw [beq_iff_eq.mp hy]
      exact List.mem_cons_self
    · exact List.mem_cons_of_mem _ (lookup_mem h)
open Classical in
theorem s_oln (C : Cok X N sc top E k G gc cl) {ms : List (Nat × Nat)} {o : Ex} {y : PySem.Expr} {x : Str} {p1 pp : Pos} (h1 : (ms.all fun q => decide (q ∈ G.mc) && decide (G.fnm q.2 = "__len__") && decide ((G.fps q.2).length = 1)) = true) (h2 : x = "len") (h3 : glb sc x = true) (h4 : notSt y = true)
    (po : PE X y (tE X.K X.mg G gc cl E o)) : PE X (.Call (.Name x p1) [y] [] pp) (tE X.K X.mg G gc cl E (.oln ms o)) := by
  subst h2
  have hq : ∀ q ∈ ms, q ∈ G.mc ∧ G.fnm q.2 = "__len__" ∧ (G.fps q.2).length = 1 := fun q hq => by
    have := List.all_eq_true.mp h1 q hq
    simp only [Bool.and_eq_true, decide_eq_true_eq] at this
    exact ⟨this.1.1, this.1.2, this.2⟩
  have hW : ∀ q : Nat × Nat, ∃ (fa : Addr) (fd : FuncData), q ∈ ms → Meth X.K (He.ga X.K (cnm q.1)) "__len__" fa ∧ FnOk X.prog X.w X.K X.mg X.base (L2.CX X.prog X.w) (4 * k) fa fd (G.fps q.2) (spC X.K X.mg G cl q.2) ∧ Binds X.K fd (G.fps q.2) [] := fun q => by
    by_cases hm : q ∈ ms
    · obtain ⟨g1, g2, _⟩ := hq q hm
      obtain ⟨fa, fd, m1, m2, m3, m4⟩ := C.W.met q g1
      rw [g2] at m2
      exact ⟨fa, fd, fun _ => ⟨m2, m4, m3⟩⟩
    · exact ⟨0, Inhabited.default, fun z => absurd z hm⟩
  have co := call_oln (X := X) (CX := L2.CX X.prog X.w) (n := 4 * k) (E := E) (good := fun q : Nat × Nat => q ∈ ms) (C := fun q => He.ga X.K (cnm q.1)) (fa := fun q => (hW q).choose) (fd := fun q => (hW q).choose_spec.choose) (ps := fun q => G.fps q.2) (sp := fun q => spC X.K X.mg G cl q.2) (fun q hm => (hW q).choose_spec.choose_spec hm) C.room C.pass
  have sc1 := star_cons (es := []) (env := X.env) h4
  refine PE.imp (pe_callB co (C.gl h3) (C.free (by decide)) boot_len (pa_cons po pa_nil sc1) (by decide) (by decide) sc1 rfl) fun σ H Q q => ?_
  obtain ⟨S, e, h, r, re, hb⟩ := q
  unfold evE at hb
  refine stepE r re hb fun a S1 H1 v x1 r1 re1 ra hb1 => ?_
  split at hb1
  · rename_i c hc
    split at hb1
    · rename_i f ef
      split at hb1
      · rename_i ds ed
        obtain ⟨p, dx, fl, rfl, hi, hcl, hno⟩ := RW.ins r1 ra hc
        have hm := lookup_mem ef
        refine ⟨(c, f), p, dx, fl, hm, rfl, hi, ?_⟩
        refine ⟨by rw [(hq _ hm).2.2]; rfl, S1.callee (anyR [a]), ds, rfl, r1.callee _, RWs.callee r1 (fun z => z) (vs := [a]) ⟨_, [], rfl, ra, rfl⟩ ed, F.All.imp (fun y p => ?_) (bnd_all hb1)⟩
        cases y with
        | ok d =>
          intro S' v H' x' has r' q
          obtain ⟨z, ez, dl⟩ := lfD_ok p
          cases d with
          | int i =>
            simp only [lenI] at ez
            split at ez
            · rename_i hi
              cases ez
              have hv : v = .int i := by unfold RV at q; exact q
              exact ⟨i, hv, hi, dl _ _ _ (ext_back x') (r1.back x' r') (by unfold RV; rfl)⟩
            · cases ez
          | _ => simp [lenI] at ez
        | ex cn =>
          intro S' H' x' has r'
          exact p _ _ (ext_back x') (r1.back x' r')
      · exact hb1.elim
    · exact hb1.elim
  · exact hb1.elim
theorem rd_cls {h : Hq} {u : Vv} {c' : Nat} {fs : List D} (e : rdV h u = some (.obj c' fs)) : clsV h u = some c' := by
  cases u with
  | d y => cases e; rfl
  | r n =>
    simp only [rdV] at e
    split at e
    · cases e
    · rename_i c2 fs2 m2 hx
      split at e
      · obtain ⟨ds, er, e⟩ := Option.map_eq_some_iff.mp e
        cases e
        simp [clsV, hx]
      · cases e
    all_goals cases e
open Classical in
theorem o_oeq (C : Cok X N sc top E k G gc cl) (ng : Bool) {ms : List (Nat × Nat)} (h1 : (ms.all fun q => decide (q ∈ G.mc) && decide (G.fnm q.2 = "__eq__") && decide ((G.fps q.2).length = 2) && decide (q.1 ∈ G.oc)) = true) :
    OpR X (compareOp (if ng then .NotEq else .Eq)) (rOeq ng (fun q : Nat × Nat => q ∈ ms) (fun q => He.ga X.K (cnm q.1)) (fun q => spC X.K X.mg G cl q.2) E) := by
  have hq : ∀ q ∈ ms, q ∈ G.mc ∧ G.fnm q.2 = "__eq__" ∧ (G.fps q.2).length = 2 ∧ q.1 ∈ G.oc := fun q hq => by
    have := List.all_eq_true.mp h1 q hq
    simp only [Bool.and_eq_true, decide_eq_true_eq] at this
    exact ⟨this.1.1.1, this.1.1.2, this.1.2, this.2⟩
  have hW : ∀ q : Nat × Nat, ∃ (fa : Addr) (fd : FuncData), q ∈ ms → Meth X.K (He.ga X.K (cnm q.1)) "__eq__" fa ∧ FnOk X.prog X.w X.K X.mg X.base (L2.CX X.prog X.w) (4 * k) fa fd (G.fps q.2) (spC X.K X.mg G cl q.2) ∧ Binds X.K fd (G.fps q.2) [] ∧ PySem.W.findIn X.K (.ref (He.ga X.K (cnm q.1))) "__ne__" = some (some (.builtin "object.__ne__")) ∧ PySem.W.subIn X.K (.ref (He.ga X.K (cnm q.1))) (.type "object") = some true ∧ PySem.W.subIn X.K (.type "str") (.ref (He.ga X.K (cnm q.1))) = some false := fun q => by
    by_cases hm : q ∈ ms
    · obtain ⟨g1, g2, _, g4⟩ := hq q hm
      obtain ⟨fa, fd, m1, m2, m3, m4⟩ := C.W.met q g1
      rw [g2] at m2
      have o := C.W.ocs q.1 g4
      exact ⟨fa, fd, fun _ => ⟨m2, m4, m3, o.ne, o.ob, o.sb⟩⟩
    · exact ⟨0, Inhabited.default, fun z => absurd z hm⟩
  exact op_oeq (X := X) (CX := L2.CX X.prog X.w) (n := 4 * k) (E := E) (good := fun q : Nat × Nat => q ∈ ms) (C := fun q => He.ga X.K (cnm q.1)) (fa := fun q => (hW q).choose) (fd := fun q => (hW q).choose_spec.choose) (ps := fun q => G.fps q.2) (sp := fun q => spC X.K X.mg G cl q.2) ng (fun q hm => (hW q).choose_spec.choose_spec hm) C.room C.pass
theorem notSet_op {op : CmpOp} {ng : Bool} {y : PySem.Expr} (h : mCop (if ng then .ne else .eq) op = true) : op = (if ng then .NotEq else .Eq) ∧ behindInMarks op y = false := by
  cases ng <;> cases op <;> first | exact ⟨rfl, nobehind y (by decide) (by decide)⟩ | (simp [mCop] at h)
theorem RWs.pair {K : PySem.W.Frag} {S : Sg} {H : Hp} {a b : Vv} {v w : V} (ra : RW K S H a v) (rb : RW K S H b w) : RWs K S H [a, b] [v, w] := ⟨v, [w], rfl, ra, w, [], rfl, rb, rfl⟩
theorem oeq_step {ms : List (Nat × Nat)} (hl : ∀ q ∈ ms, (G.fps q.2).length = 2) {β : Type} {K : PySem.W.Frag} {mg : Str → Option Value} {ng : Bool} {S : Sg} {H : Hp} {h : Hq} {a b : Vv} {v w : V} {q : Sg → Hp → β → Prop} {f : Vv → M β} {Q : VK} (r : RelH K S H h) (ra : RW K S H a v) (rb : RW K S H b w)
    (hb : (bnd (match clsV h a with
      | some c => match ms.lookup c with
        | some f => match rdVs h [a, b] with
          | some ds => match oeqR ds with
            | true => bnd (cl f ds) fun d => lfD (eqI ng d)
            | false => .stk
          | none => .stk
        | none => .stk
      | none => .stk : M Vv) f).All (Po K mg G S H h q E))
    (k : ∀ (z : Bool) S1 H1, Ext S H S1 H1 → RelH K S1 H1 h → (f (.d (.bl z))).All (Po K mg G S1 H1 h q E) → Q (.bl z) H1) :
    rOeq ng (fun q : Nat × Nat => q ∈ ms) (fun q => He.ga K (cnm q.1)) (fun q => spC K mg G cl q.2) E v w H Q := by
  split at hb
  · rename_i c hc
    split at hb
    · rename_i g ef
      split at hb
      · rename_i ds ed
        split at hb
        · rename_i ho
          obtain ⟨p, dx, fl, rfl, hi, hcl, hno⟩ := RW.ins r ra hc
          have hm := lookup_mem ef
          have hr2 : (∃ b' dy gl, w = .ref b' ∧ H b' = some (.ins (He.ga K (cnm c)) dy gl)) ∨ ∃ z, w = .str z := by
            simp only [rdVs] at ed
            obtain ⟨d1, e1, ed⟩ := Option.bind_eq_some_iff.mp ed
            obtain ⟨ds1, e2, rfl⟩ := Option.map_eq_some_iff.mp ed
            obtain ⟨d2, e3, e2⟩ := Option.bind_eq_some_iff.mp e2
            obtain ⟨ds2, e4, rfl⟩ := Option.map_eq_some_iff.mp e2
            cases e4
            have hcd : ∀ {u : Vv} {c' : Nat} {fs : List D}, rdV h u = some (.obj c' fs) → clsV h u = some c' := fun e => rd_cls e
            unfold oeqR at ho
            split at ho
            · rename_i c1 f1 c2 f2 heq
              cases heq
              have z1 := hcd e1
              rw [hc] at z1
              cases z1
              have z2 := hcd e3
              rw [← Nat.eq_of_beq_eq_true ho] at z2
              obtain ⟨b', dy, gl, rfl, hb', _⟩ := RW.ins r rb z2
              exact .inl ⟨b', dy, gl, rfl, hb'⟩
            · rename_i c1 f1 s1 heq
              cases heq
              cases b with
              | d y =>
                cases e3
                exact .inr ⟨_, by have := rb; unfold RW RV at this; exact this⟩
              | r n =>
                simp only [rdV] at e3
                split at e3
                · cases e3
                · split at e3
                  · obtain ⟨ds, er, e⟩ := Option.map_eq_some_iff.mp e3
                    cases e
                  · cases e3
                all_goals cases e3
            · cases ho
          refine ⟨(c, g), p, dx, fl, hm, rfl, hi, hr2, ?_⟩
          rw [bnd_assoc] at hb
          refine ⟨by rw [hl _ hm]; rfl, S.callee (anyR [a, b]), ds, rfl, r.callee _, RWs.callee r (fun z => z) (RWs.pair ra rb) ed, F.All.imp (fun y p => ?_) (bnd_all hb)⟩
          cases y with
          | ok d =>
            intro S' v' H' x' has r' q'
            cases d with
            | bl z =>
              have hv : v' = .bl z := by unfold RV at q'; exact q'
              have p : (f (.d (.bl (z != ng)))).All (Po K mg G S H h q E) := p
              exact ⟨z, hv, k (z != ng) _ _ (ext_back x') (r.back x' r') (F.All.imp (fun y py => py.up (ext_back x') y) p)⟩
            | _ => exact p.elim
          | ex cn =>
            intro S' H' x' has r'
            exact p _ _ (ext_back x') (r.back x' r')
        · exact hb.elim
      · exact hb.elim
    · exact hb.elim
  · exact hb.elim
theorem oeq_len {ms : List (Nat × Nat)} (h1 : (ms.all fun q => decide (q ∈ G.mc) && decide (G.fnm q.2 = "__eq__") && decide ((G.fps q.2).length = 2) && decide (q.1 ∈ G.oc)) = true) : ∀ q ∈ ms, (G.fps q.2).length = 2 := fun q hq => by
  have := List.all_eq_true.mp h1 q hq
  simp only [Bool.and_eq_true, decide_eq_true_eq] at this
  exact this.1.2
theorem bnd_ret {α : Type} (m : M α) : bnd m ok = m := by
  unfold bnd
  induction m with
  | ret a => cases a <;> rfl
  | draw n k ih =>
    show F.draw n (fun r => (k r).bind _) = F.draw n k
    congr 1
    funext r
    exact ih r
  | stk => rfl
theorem s_oeq (C : Cok X N sc top E k G gc cl) {ng : Bool} {ms : List (Nat × Nat)} {a b : Ex} {x y : PySem.Expr} {op : CmpOp} {pp : Pos} (h1 : (ms.all fun q => decide (q ∈ G.mc) && decide (G.fnm q.2 = "__eq__") && decide ((G.fps q.2).length = 2) && decide (q.1 ∈ G.oc)) = true) (h2 : mCop (if ng then .ne else .eq) op = true)
    (pa : PE X x (tE X.K X.mg G gc cl E a)) (pb : PE X y (tE X.K X.mg G gc cl E b)) : PE X (.Compare x [op] [y] pp) (tE X.K X.mg G gc cl E (.oeq ng ms a b)) := by
  obtain ⟨rfl, hm⟩ := notSet_op (y := y) h2
  refine PE.imp (pe_cmpR (o_oeq C ng h1) pa pb hm) fun σ H Q q => ?_
  obtain ⟨S, e, h, r, re, hb⟩ := q
  unfold evE at hb
  refine stepE r re hb fun a S1 H1 v x1 r1 re1 ra hb1 => stepE r1 re1 hb1 fun b S2 H2 w x2 r2 re2 rb hb2 => ?_
  refine oeq_step (f := ok) (oeq_len h1) r2 (RW.ext r1 x2 a v ra) rb (by rw [bnd_ret]; exact hb2) fun z S3 H3 x3 r3 p => ?_
  exact p S3 H3 (Ext.refl _ _) r3 _ (by unfold RW RV; rfl)
theorem s_oeqT (C : Cok X N sc top E k G gc cl) {ng : Bool} {ms : List (Nat × Nat)} {a b : Ex} {x y : PySem.Expr} {op : CmpOp} {pp : Pos} (h1 : (ms.all fun q => decide (q ∈ G.mc) && decide (G.fnm q.2 = "__eq__") && decide ((G.fps q.2).length = 2) && decide (q.1 ∈ G.oc)) = true) (h2 : mCop (if ng then .ne else .eq) op = true)
    (pa : PE X x (tE X.K X.mg G gc cl E a)) (pb : PE X y (tE X.K X.mg G gc cl E b)) : PT X (.Compare x [op] [y] pp) (tT X.K X.mg G gc cl E (.val (.oeq ng ms a b))) := by
  obtain ⟨rfl, hm⟩ := notSet_op (y := y) h2
  refine PT.imp (pt_cmpR (o_oeq C ng h1) pa pb hm) fun σ H Q q => ?_
  obtain ⟨S, e, h, r, re, hb⟩ := q
  unfold evT evE at hb
  rw [bnd_assoc] at hb
  refine stepE r re hb fun a S1 H1 v x1 r1 re1 ra hb1 => ?_
  rw [bnd_assoc] at hb1
  refine stepE r1 re1 hb1 fun b S2 H2 w x2 r2 re2 rb hb2 => ?_
  refine oeq_step (oeq_len h1) r2 (RW.ext r1 x2 a v ra) rb hb2 fun z S3 H3 x3 r3 p => ?_
  exact ⟨z, rfl, p S3 H3 (Ext.refl _ _) r3⟩
theorem s_iso (C : Cok X N sc top E k G gc cl) {c : Nat} {a : Ex} {y : PySem.Expr} {x z : Str} {p1 p2 pp : Pos} (h0 : c ∈ G.oc) (h1 : x = "isinstance") (h2 : glb sc x = true) (h3 : z = cnm c) (h4 : glb sc z = true) (h6 : nodbg z = true) (h5 : notSt y = true) (pa : PE X y (tE X.K X.mg G gc cl E a)) :
    PE X (.Call (.Name x p1) [y, .Name z p2] [] pp) (tE X.K X.mg G gc cl E (.iso c a)) := by
  subst h1 h3
  have o := C.W.ocs c h0
  have pt : PE X (.Name (cnm c) p2) (tC (.ref (He.ga X.K (cnm c)))) := pe_glob (v := .ref _) (C.gl h4) o.mgc rfl (nodbg_ok h6).1
  refine PE.imp (pe_callB call_isi (C.gl h2) (C.free (by decide)) boot_isinstance (pa_cons pa (pa_cons pt pa_nil) (star_cons h5)) (by decide) (by decide) (star_cons h5) rfl) fun σ H Q q => ?_
  obtain ⟨S, e, h, r, re, hb⟩ := q
  unfold evE at hb
  refine stepE r re hb fun a S1 H1 v x1 r1 re1 ra hb1 => ?_
  split at hb1
  · rename_i p ep
    obtain ⟨zz, ez, dl⟩ := lfD_ok hb1
    obtain ⟨b, eb, rfl⟩ := Option.map_eq_some_iff.mp ez
    cases p with
    | obj c' fs =>
      simp only [isoD] at eb
      split at eb
      · rename_i hcc
        cases eb
        have hcc := Nat.eq_of_beq_eq_true hcc
        subst hcc
        obtain ⟨p, dx, fl, rfl, hi, hcl, hno⟩ := RW.ins r1 ra (rd_cls ep)
        exact ⟨.ref p, .ref _, _, _, true, rfl, .own _, .base (.ins hi hcl.1 o.c1 o.c2 o.c3 o.c4), o.k1, dl.bl r1⟩
      · cases eb
    | str s =>
      simp only [isoD] at eb
      cases eb
      refine ⟨v, .ref _, _, _, false, rfl, .own _, ra.tyX r1 ep (fun n e2 => nomatch e2) (fun c n e2 => nomatch e2) (fun n e2 => nomatch e2), o.k2, dl.bl r1⟩
    | _ => simp [isoD] at eb
  · exact hb1.elim
end
end Bk
namespace Bk
open PySem PySem.Spec PyProof.Rows L2
variable [MF] [PWc]
mutual
theorem RV.nis {K : PySem.W.Frag} {S : Sg} {H : Hp} : ∀ (n : Nat) (d : D) (v : V), D.keyD n d = true → RV K S H d v → NIs K H (nk d) v
  | n, .non, v, _, q => by unfold RV at q; simp only [nk]; unfold NIs; exact q
  | n, .bl b, v, h, q => by cases n <;> simp [D.keyD] at h
  | n, .int i, v, _, q => by unfold RV at q; simp only [nk]; unfold NIs; exact q
  | n, .str s, v, _, q => by unfold RV at q; simp only [nk]; unfold NIs; exact q
  | 0, .tup xs, v, h, q => by simp [D.keyD] at h
  | n + 1, .tup xs, v, h, q => by
    unfold RV at q
    obtain ⟨a, vs, e, t, q⟩ := q
    simp only [nk]
    unfold NIs
    exact ⟨a, vs, e, t, RVs.nis n xs vs (by simpa [D.keyD] using h) q⟩
  | n, .lst xs, v, h, q => by cases n <;> simp [D.keyD] at h
  | n, .opq k, v, h, q => by cases n <;> simp [D.keyD] at h
  | n, .obj c k, v, h, q => by cases n <;> simp [D.keyD] at h
  | n, .dct k, v, h, q => by cases n <;> simp [D.keyD] at h
theorem RVs.nis {K : PySem.W.Frag} {S : Sg} {H : Hp} : ∀ (n : Nat) (ds : List D) (vs : List V), D.keyDs n ds = true → RVs K S H ds vs → NAll K H (nks ds) vs
  | n, [], vs, _, q => by unfold RVs at q; simp only [nks]; unfold NAll; exact q
  | n, d :: ds, vs, h, q => by
    simp only [D.keyDs, Bool.and_eq_true] at h
    unfold RVs at q
    obtain ⟨v, t, e, q1, q2⟩ := q
    simp only [nks]
    unfold NAll
    exact ⟨v, t, e, RV.nis n d v h.1 q1, RVs.nis n ds t h.2 q2⟩
end
section
variable {K : PySem.W.Frag} {S : Sg} {H : Hp}
theorem same_ff {a b : D} (h : ¬ a = b) : D.same a b = false := by
  cases e : D.same a b with
  | false => rfl
  | true => exact absurd (D.same_eq e) h
theorem isTK_nk {d : D} (h : isKD d = true) : isTK (nk d) = isTup d := by
  cases d <;> first | (simp [isKD] at h; done) | rfl
inductive DEn (K : PySem.W.Frag) (S : Sg) (H : Hp) : List D → List EnT → Prop
  | nil : DEn K S H [] []
  | cons {k v : D} {kvs : List D} {y w : V} {es : List EnT} : D.keyD 8 k = true → isKD k = true → RV K S H k y → RV K S H v w → DEn K S H kvs es → DEn K S H (k :: v :: kvs) ((nk k, y, w) :: es)
theorem den_of : ∀ {es : List EnT} {kvs : List D}, DKeys kvs es → RVs K S H kvs (flatE es) → DEn K S H kvs es
  | [], kvs, d, q => by
    cases kvs with
    | nil => exact .nil
    | cons k r => obtain ⟨v, t, e, _⟩ := q.of_cons; cases e
  | e :: es, kvs, d, q => by
    cases kvs with
    | nil => have := q.nil_iff; cases this
    | cons k r =>
      obtain ⟨y, t, e1, q1, q2⟩ := q.of_cons
      cases r with
      | nil => have := q2.nil_iff; subst this; cases e1
      | cons v r =>
        obtain ⟨w, t2, e2, q3, q4⟩ := q2.of_cons
        subst e2
        injection e1 with e1 e3
        injection e3 with e3 e4
        subst e4
        obtain ⟨d1, d2, d3, d6⟩ := d
        have d1 : nk k :: (keysD r).map nk = e.1 :: es.map (·.1) := d1
        injection d1 with d4 d5
        obtain ⟨z1, z2⟩ := d2 k (by rw [keysD]; exact List.mem_cons_self)
        obtain ⟨ek, ey, ew⟩ := e
        have d4 : nk k = ek := d4
        have e1 : ey = y := e1
        have e3 : ew = w := e3
        subst d4 e1 e3
        exact .cons z1 z2 q1 q3 (den_of ⟨d5, fun x hx => d2 x (by rw [keysD]; exact List.mem_cons_of_mem _ hx), fun x hx y hy => d3 x (by rw [keysD]; exact List.mem_cons_of_mem _ hx) y (by rw [keysD]; exact List.mem_cons_of_mem _ hy), (List.nodup_cons.mp d6).2⟩ q4)
theorem DEn.keys {kvs : List D} {es : List EnT} (d : DEn K S H kvs es) : KeysT K H es := by
  induction d with
  | nil => exact fun x hx => nomatch hx
  | cons h1 h2 h3 h4 _ ih =>
    intro x hx
    rcases List.mem_cons.mp hx with rfl | hx
    · exact ⟨RV.nis 8 _ _ h1 h3, nk_depth 8 _ h1⟩
    · exact ih x hx
theorem DEn.back {kvs : List D} {es : List EnT} (d : DEn K S H kvs es) : (keysD kvs).map nk = es.map (·.1) ∧ (∀ k ∈ keysD kvs, D.keyD 8 k = true ∧ isKD k = true) ∧ RVs K S H kvs (flatE es) := by
  induction d with
  | nil => exact ⟨rfl, fun k hk => (by simp [keysD] at hk), .nil⟩
  | cons h1 h2 h3 h4 _ ih =>
    obtain ⟨i1, i2, i3⟩ := ih
    refine ⟨by rw [keysD, List.map_cons, List.map_cons, i1], fun k hk => ?_, .cons h3 (.cons h4 i3)⟩
    rw [keysD] at hk
    rcases List.mem_cons.mp hk with rfl | hk
    · exact ⟨h1, h2⟩
    · exact i2 k hk
theorem DEn.len {kvs : List D} {es : List EnT} (d : DEn K S H kvs es) : kvs.length = 2 * es.length := by
  induction d with
  | nil => rfl
  | cons _ _ _ _ _ ih => rw [List.length_cons, List.length_cons, List.length_cons, ih]; omega
theorem DEn.look {kvs : List D} {es : List EnT} (d : DEn K S H kvs es) {k : D} (hk : D.keyD 8 k = true) : match lookD k kvs with
    | some vd => ∃ v, lookT es (nk k) = some v ∧ RV K S H vd v
    | none => lookT es (nk k) = none := by
  induction d with
  | nil => exact rfl
  | @cons k' v kvs y w es h1 h2 h3 h4 _ ih =>
    rw [lookD]
    by_cases e : k' = k
    · subst e
      rw [D.same_self]
      refine ⟨w, ?_, h4⟩
      unfold lookT
      rw [List.find?_cons_of_pos (by simp)]
      rfl
    · rw [same_ff e]
      have hn : ¬ nk k' = nk k := fun z => e (nk_inj 8 8 k' k h1 hk z)
      have hl : lookT ((nk k', y, w) :: es) (nk k) = lookT es (nk k) := by
        unfold lookT
        rw [List.find?_cons_of_neg (by simpa using hn)]
      rw [hl]
      exact ih
theorem DEn.some {kvs : List D} {es : List EnT} (d : DEn K S H kvs es) {k : D} (hk : D.keyD 8 k = true) : (lookT es (nk k)).isSome = (lookD k kvs).isSome := by
  have := d.look hk
  split at this
  · rename_i vd h
    obtain ⟨v, e, _⟩ := this
    rw [e, h]; rfl
  · rename_i h
    rw [this, h]; rfl
theorem putD_keys {k v : D} : ∀ kvs : List D, ∀ x ∈ keysD (putD k v kvs), x = k ∨ x ∈ keysD kvs
  | [], x, hx => by
    rw [putD, keysD, keysD] at hx
    · exact .inl (by simpa using hx)
    · simp
    · simp
  | [a], x, hx => by
    rw [putD, keysD, keysD] at hx
    · exact .inl (by simpa using hx)
    · simp
    · simp
  | k' :: v' :: r, x, hx => by
    rw [putD] at hx
    split at hx
    · rw [keysD] at hx ⊢
      exact .inr hx
    · rw [keysD] at hx ⊢
      rcases List.mem_cons.mp hx with rfl | hx
      · exact .inr List.mem_cons_self
      · rcases putD_keys r x hx with h | h
        · exact .inl h
        · exact .inr (List.mem_cons_of_mem _ h)
theorem DEn.put {kvs : List D} {es : List EnT} (d : DEn K S H kvs es) (hn : (es.map (·.1)).Nodup) {k vd : D} {y v : V} (hk : D.keyD 8 k = true) (hi : isKD k = true) (hy : RV K S H k y) (hv : RV K S H vd v) : DEn K S H (putD k vd kvs) (putT es (nk k) y v) := by
  induction d with
  | nil =>
    rw [putD]
    · exact .cons hk hi hy hv .nil
    · simp
  | @cons k' v' kvs y' w es h1 h2 h3 h4 d ih =>
    rw [List.map_cons, List.nodup_cons] at hn
    rw [putD]
    by_cases e : k' = k
    · subst e
      rw [D.same_self]
      have hl : (lookT ((nk k', y', w) :: es) (nk k')).isSome = true := by
        unfold lookT
        rw [List.find?_cons_of_pos (by simp)]
        rfl
      unfold putT
      rw [if_pos hl, List.map_cons, if_pos rfl]
      have hm : es.map (fun x => if x.1 = nk k' then (x.1, x.2.1, v) else x) = es := by
        have : ∀ x ∈ es, (fun x : EnT => if x.1 = nk k' then (x.1, x.2.1, v) else x) x = x := fun x hx => by
          show (if x.1 = nk k' then (x.1, x.2.1, v) else x) = x
          rw [if_neg fun z => hn.1 (List.mem_map.mpr ⟨x, hx, z⟩)]
        exact (List.map_congr_left this).trans (List.map_id _)
      rw [hm]
      exact .cons h1 h2 h3 hv d
    · rw [same_ff e]
      have hne : ¬ nk k' = nk k := fun z => e (nk_inj 8 8 k' k h1 hk z)
      have hl : lookT ((nk k', y', w) :: es) (nk k) = lookT es (nk k) := by
        unfold lookT
        rw [List.find?_cons_of_neg (by simpa using hne)]
      have hp : putT ((nk k', y', w) :: es) (nk k) y v = (nk k', y', w) :: putT es (nk k) y v := by
        unfold putT
        rw [hl]
        split
        · rw [List.map_cons, if_neg hne]
        · rfl
      rw [hp]
      exact .cons h1 h2 h3 h4 (ih hn.2)
theorem kk_ok {k : D} {kvs : List D} (h : kkD k kvs = true) : D.keyD 8 k = true ∧ isKD k = true ∧ ∀ k', (keysD kvs).head? = some k' → isTup k' = isTup k := by
  cases k with
  | tup xs =>
    simp only [kkD, Bool.and_eq_true] at h
    refine ⟨h.1, rfl, fun k' e => ?_⟩
    cases kvs with
    | nil => cases e
    | cons a r =>
      have h2 := h.2
      cases r with
      | nil => cases e
      | cons b r =>
        cases e
        exact h2
  | int i =>
    simp only [kkD] at h
    refine ⟨rfl, rfl, fun k' e => ?_⟩
    cases kvs with
    | nil => cases e
    | cons a r =>
      cases r with
      | nil => cases e
      | cons b r =>
        cases e
        cases hh : isTup k' with
        | false => rfl
        | true =>
          have h : (!isTup k') = true := h
          rw [hh] at h; cases h
  | _ => simp [kkD] at h
theorem kk_mode {k : D} {kvs : List D} {es : List EnT} (dk : DKeys kvs es) (h : kkD k kvs = true) : ∀ k' ∈ keysD kvs, isTup k' = isTup k := fun k' hk' => by
  obtain ⟨_, _, h3⟩ := kk_ok h
  cases e : keysD kvs with
  | nil => rw [e] at hk'; cases hk'
  | cons a r =>
    have := h3 a (by rw [e]; rfl)
    rw [← this]
    exact dk.2.2.1 k' hk' a (by rw [e]; exact List.mem_cons_self)
theorem get_of {P : Program} {w : World} {kvs : List D} {es : List EnT} {k : D} {y : V} {a : Addr} {o : Obj} (ha : H a = some (DicX P w a o es)) (dk : DKeys kvs es) (rv : RVs K S H kvs (flatE es)) (h : kkD k kvs = true) (hy : RV K S H k y) : TGet P w K H a o es y (nk k) := by
  obtain ⟨h1, h2, _⟩ := kk_ok h
  refine ⟨ha, (den_of dk rv).keys, RV.nis 8 k y h1 hy, nk_depth 8 k h1, ?_, fun x hx => ?_⟩
  · cases k with
    | tup xs => exact .inl rfl
    | int i => exact .inr ⟨i, rfl⟩
    | _ => simp [isKD] at h2
  · have : x.1 ∈ (keysD kvs).map nk := by rw [dk.1]; exact List.mem_map_of_mem (f := (·.1)) hx
    obtain ⟨k', hk', e⟩ := List.mem_map.mp this
    rw [← e, isTK_nk (dk.2.1 k' hk').2, isTK_nk h2]
    exact kk_mode dk h k' hk'
theorem putT_fst (es : List EnT) (k : NestedKey) (y v : V) (hn : (es.map (·.1)).Nodup) : ((putT es k y v).map (·.1)).Nodup := by
  unfold putT
  by_cases h : (lookT es k).isSome = true
  · rw [if_pos h, List.map_map]
    have : (es.map ((fun x : EnT => x.1) ∘ fun x => if x.1 = k then (x.1, x.2.1, v) else x)) = es.map (·.1) := List.map_congr_left fun x _ => by
      show (if x.1 = k then (x.1, x.2.1, v) else x).1 = x.1
      split <;> rfl
    rw [this]
    exact hn
  · rw [if_neg h, List.map_append]
    refine List.nodup_append.mpr ⟨hn, by simp, fun a ha c hc => ?_⟩
    have hc : c = k := by simpa using hc
    subst hc
    rintro rfl
    obtain ⟨x0, hx0, ex0⟩ := List.mem_map.mp ha
    apply h
    unfold lookT
    cases hq : es.find? (fun x => decide (x.1 = a)) with
    | some z => rfl
    | none => exact absurd (List.find?_eq_none.mp hq x0 hx0) (by simpa using ex0)
theorem put_keys {kvs : List D} {es : List EnT} {k vd : D} {y v : V} (dk : DKeys kvs es) (rv : RVs K S H kvs (flatE es)) (h : kkD k kvs = true) (hy : RV K S H k y) (hv : RV K S H vd v) : DKeys (putD k vd kvs) (putT es (nk k) y v) ∧ RVs K S H (putD k vd kvs) (flatE (putT es (nk k) y v)) := by
  obtain ⟨h1, h2, _⟩ := kk_ok h
  have hn := dk.2.2.2
  have d := (den_of dk rv).put hn h1 h2 hy hv
  obtain ⟨b1, b2, b3⟩ := d.back
  refine ⟨⟨b1, b2, fun x hx z hz => ?_, putT_fst _ _ _ _ hn⟩, b3⟩
  have m := kk_mode dk h
  have : ∀ x ∈ keysD (putD k vd kvs), isTup x = isTup k := fun x hx => by
    rcases putD_keys kvs x hx with e | e
    · rw [e]
    · exact m x e
  rw [this x hx, this z hz]
end
section
variable {k : Nat} {G : Nm} {gc : Gc} {cl : Cl} {N : List Str} {X : Cx} {sc : Scope} {top : Bool} {E : XK}
theorem Cok.dx (C : Cok X N sc top E k G gc cl) {a : Addr} {o : Obj} {es : List EnT} : DicX PWc.P PWc.w a o es = DicX X.prog X.w a o es := by rw [C.pw.1, C.pw.2]
theorem Cok.hu9 (C : Cok X N sc top E k G gc cl) : X.A.units + 9 < cLine := (by have := C.room.units; omega)
theorem noSl_of {e : PySem.Expr} (h : notSlc e = true) : NoSl e := by
  intro o i
  cases e <;> first | rfl | (simp [notSlc] at h)
theorem s_dgi (C : Cok X N sc top E k G gc cl) {x i : Ex} {y s : PySem.Expr} {pp : Pos} (h1 : notSlc s = true) (px : PE X y (tE X.K X.mg G gc cl E x)) (pi : PE X s (tE X.K X.mg G gc cl E i)) : PE X (.Subscript y s pp) (tE X.K X.mg G gc cl E (.dgi x i)) := by
  refine PE.imp (pe_xget C.hu9 px pi (noSl_of h1)) fun σ H Q q => ?_
  obtain ⟨S, e, h, r, re, hb⟩ := q
  unfold evE at hb
  refine stepE r re hb fun a S1 H1 v x1 r1 re1 ra hb1 => stepE r1 re1 hb1 fun b S2 H2 w x2 r2 re2 rb hb2 => ?_
  split at hb2
  · rename_i kvs kd ek
    split at hb2
    · rename_i hk
      obtain ⟨p, o, es, rfl, hp, dk, rv⟩ := (RW.ext r1 x2 _ _ ra).dct r2 ek
      rw [C.dx] at hp
      obtain ⟨z, ez, dl⟩ := lfD_ok hb2
      have lk := (den_of dk rv).look (kk_ok hk).1
      rw [ez] at lk
      obtain ⟨u, eu, ru⟩ := lk
      exact ⟨p, o, es, nk kd, u, rfl, get_of hp dk rv hk rb, eu, dl S2 u H2 (Ext.refl _ _) r2 ru⟩
    · exact hb2.elim
  · exact hb2.elim
theorem dinK (C : Cok X N sc top E k G gc cl) {ng : Bool} {x i : Ex} {S : Sg} {H : Hp} {h : Hq} {e : En} {σ : L2.St} {β : Type} {q : Sg → Hp → β → Prop} {f : Vv → M β} {R : VK} (r : RelH X.K S H h) (re : RelE X.K S H e σ) (hb : (bnd (evE gc cl (.din ng i x) e h) f).All (Po X.K X.mg G S H h q E))
    (kk : ∀ b S1 H1, Ext S H S1 H1 → RelH X.K S1 H1 h → (f (.d (.bl b))).All (Po X.K X.mg G S1 H1 h q E) → R (.bl b) H1) :
    tE X.K X.mg G gc cl E i σ H fun y H1 => tE X.K X.mg G gc cl E x σ H1 fun z H2 => ∃ a o es kk, z = .ref a ∧ TGet X.prog X.w X.K H2 a o es y kk ∧ R (.bl ((lookT es kk).isSome != ng)) H2 := by
  unfold evE at hb
  rw [bnd_assoc] at hb
  refine stepE r re hb fun a S1 H1 v x1 r1 re1 ra hb1 => ?_
  rw [bnd_assoc] at hb1
  refine stepE r1 re1 hb1 fun b S2 H2 w x2 r2 re2 rb hb2 => ?_
  split at hb2
  · rename_i kvs kd ek
    split at hb2
    · rename_i hk
      obtain ⟨p, o, es, rfl, hp, dk, rv⟩ := rb.dct r2 ek
      rw [C.dx] at hp
      have sm := (den_of dk rv).some (kk_ok hk).1
      refine ⟨p, o, es, nk kd, rfl, get_of hp dk rv hk (RV.ext r1 x2 _ _ ra), ?_⟩
      rw [sm]
      exact kk _ S2 H2 (x1.trans x2) r2 hb2
    · exact hb2.elim
  · exact hb2.elim
theorem pc_din' (C : Cok X N sc top E k G gc cl) {ng : Bool} {op : CmpOp} {l r' : PySem.Expr} {ti tx : TE} {T : TE} (h1 : mCop (if ng then .nin else .isin) op = true) (pi : PE X l ti) (px : PE X r' tx)
    (key : ∀ σ H Q, T σ H Q → ti σ H fun y H1 => tx σ H1 fun z H2 => ∃ a o es kk, z = .ref a ∧ TGet X.prog X.w X.K H2 a o es y kk ∧ Q (.bl ((lookT es kk).isSome != ng)) H2) : PC X op l r' T := by
  cases ng with
  | true =>
    obtain rfl : op = .NotIn := by cases op <;> first | rfl | (simp [mCop] at h1)
    refine ⟨fun pins s σ H Q I q => (pc_xnotin C.hu9 pi px).run pins s σ H Q I ?_⟩
    have kq := key σ H Q q
    unfold tXNot
    simpa using kq
  | false =>
    obtain rfl : op = .In := by cases op <;> first | rfl | (simp [mCop] at h1)
    refine ⟨fun pins s σ H Q I q => (pc_xin C.hu9 pi px).run pins s σ H Q I ?_⟩
    have kq := key σ H Q q
    unfold tXIn
    simpa using kq
theorem bnd_ok {α : Type} (m : M α) : bnd m (fun a => ok a) = m := by
  unfold bnd
  induction m with
  | ret a => cases a <;> rfl
  | draw n k ih =>
    show F.draw n _ = F.draw n k
    congr 1
    funext r
    exact ih r
  | stk => rfl
theorem s_din (C : Cok X N sc top E k G gc cl) {ng : Bool} {x i : Ex} {l r' : PySem.Expr} {op : CmpOp} {pp : Pos} (h1 : mCop (if ng then .nin else .isin) op = true) (h2 : notSet r' = true) (pi : PE X l (tE X.K X.mg G gc cl E i)) (px : PE X r' (tE X.K X.mg G gc cl E x)) : PE X (.Compare l [op] [r'] pp) (tE X.K X.mg G gc cl E (.din ng i x)) := by
  refine pe_cmp (pc_din' C h1 pi px fun σ H Q q => ?_) (nomarkS h2)
  obtain ⟨S, e, h, r, re, hb⟩ := q
  rw [← bnd_ok (evE gc cl (.din ng i x) e h)] at hb
  exact dinK C r re hb fun b S1 H1 x1 r1 hb1 => (okD hb1).bl r1
theorem s_dinT (C : Cok X N sc top E k G gc cl) {ng : Bool} {x i : Ex} {l r' : PySem.Expr} {op : CmpOp} {pp : Pos} (h1 : mCop (if ng then .nin else .isin) op = true) (h2 : notSet r' = true) (pi : PE X l (tE X.K X.mg G gc cl E i)) (px : PE X r' (tE X.K X.mg G gc cl E x)) : PT X (.Compare l [op] [r'] pp) (tT X.K X.mg G gc cl E (.val (.din ng i x))) := by
  refine PT.imp (pt_cmp (pc_din' (T := fun σ H Q => tE X.K X.mg G gc cl E i σ H fun y H1 => tE X.K X.mg G gc cl E x σ H1 fun z H2 => ∃ a o es kk, z = .ref a ∧ TGet X.prog X.w X.K H2 a o es y kk ∧ Q (.bl ((lookT es kk).isSome != ng)) H2) C h1 pi px fun σ H Q q => q) (nomarkS h2)) fun σ H Q q => ?_
  obtain ⟨S, e, h, r, re, hb⟩ := q
  unfold evT at hb
  exact dinK (R := fun v H1 => ∃ c, v = .bl c ∧ Q c H1) C r re hb fun b S1 H1 x1 r1 hb1 => ⟨b, rfl, hb1 S1 H1 (Ext.refl _ _) r1⟩
theorem s_dgt (C : Cok X N sc top E k G gc cl) {x i d : Ex} {o y z : PySem.Expr} {ap pp : Pos} (h1 : (ap.endLine == pp.line) = true) (h2 : notSt y = true) (h3 : notSt z = true) (h4 : notCall o = true) (px : PE X o (tE X.K X.mg G gc cl E x)) (pi : PE X y (tE X.K X.mg G gc cl E i)) (pd : PE X z (tE X.K X.mg G gc cl E d)) :
    PE X (.Call (.Attribute o "get" ap) [y, z] [] pp) (tE X.K X.mg G gc cl E (.dgt x i d)) := by
  have m : M2 X o "get" ap y z pp := ⟨attrBase h4, by rw [star_cons h2, star_cons h3]; rfl, h1, by rw [star_cons h2, star_cons h3]; rfl⟩
  refine PE.imp (pe_xget2 C.hu9 px pi pd m) fun σ H Q q => ?_
  obtain ⟨S, e, h, r, re, hb⟩ := q
  unfold evE at hb
  refine stepE r re hb fun a S1 H1 v x1 r1 re1 ra hb1 => ?_
  split at hb1
  · rename_i kvs ek
    obtain ⟨p, o, es, rfl, hp, dk, rv⟩ := ra.dct r1 ek
    rw [C.dx] at hp
    refine ⟨p, rfl, ⟨o, es, hp⟩, stepE r1 re1 hb1 fun b S2 H2 w x2 r2 re2 rb hb2 => stepE r2 re2 hb2 fun c S3 H3 u x3 r3 re3 rc hb3 => ?_⟩
    split at hb3
    · rename_i kd dd
      split at hb3
      · rename_i hk
        obtain ⟨p', o', es', e', hp', dk', rv'⟩ := (RW.ext r1 (x2.trans x3) _ _ ra).dct r3 ek
        cases e'
        rw [C.dx] at hp'
        refine ⟨o', es', nk kd, get_of hp' dk' rv' hk (RV.ext r2 x3 _ _ rb), ?_⟩
        have lk := (den_of dk' rv').look (kk_ok hk).1
        split at lk
        · rename_i vd ev
          obtain ⟨u', eu, ru⟩ := lk
          rw [ev] at hb3
          rw [eu]
          exact okD hb3 S3 u' H3 (Ext.refl _ _) r3 ru
        · rename_i ev
          rw [ev] at hb3
          rw [lk]
          exact okD hb3 S3 u H3 (Ext.refl _ _) r3 rc
      · exact hb3.elim
    · exact hb3.elim
  · exact hb1.elim
end
theorem flat_get {K : PySem.W.Frag} {S : Sg} {H : Hp} : ∀ {kvs : List D} {es : List EnT}, DEn K S H kvs es → ∀ (i : Nat) (e : EnT), es[i]? = some e → ∃ d, (keysD kvs)[i]? = some d ∧ RV K S H d e.2.1 := by
  intro kvs es d
  induction d with
  | nil => intro i e h; simp at h
  | cons h1 h2 h3 h4 _ ih =>
    intro i e h
    cases i with
    | zero =>
      simp only [List.getElem?_cons_zero, Option.some.injEq] at h
      subst h
      rw [keysD]
      exact ⟨_, rfl, h3⟩
    | succ i =>
      rw [keysD]
      simp only [List.getElem?_cons_succ] at h ⊢
      exact ih i e h
theorem DEn.klen {K : PySem.W.Frag} {S : Sg} {H : Hp} {kvs : List D} {es : List EnT} (d : DEn K S H kvs es) : (keysD kvs).length = es.length := by
  have := congrArg List.length d.back.1
  simpa using this
theorem it_dky {K : PySem.W.Frag} {S : Sg} {H : Hp} {h : Hq} {a : Addr} {o : Obj} {es : List EnT} {kvs : List D} {hq : Hq → Prop} (r : RelH K S H h) (t : H a = some (DicX PWc.P PWc.w a o es)) (f : S.fz a) (dk : DKeys kvs es) (rv : RVs K S H kvs (flatE es)) : ItOk K S H hq (Itx PWc.P PWc.w a o es) (keysD kvs) where
  go := fun i S1 H1 h1 _ x r1 hi => ⟨r.keepF x t f (fun _ z => nomatch z) nt_dicx, by rw [← (den_of dk rv).klen]; exact hi⟩
  stop := fun S1 H1 h1 _ x r1 => ⟨r.keepF x t f (fun _ z => nomatch z) nt_dicx, by rw [(den_of dk rv).klen]; exact Nat.le_refl _⟩
  yld := fun i S1 H1 h1 v H' _ x r1 hi y => by
    obtain ⟨e, p, hp, rfl⟩ := y
    obtain ⟨d, hd, rd⟩ := flat_get (den_of dk rv) i p hp
    exact yld_same r1 ⟨e, d, hd, RV.ext r x _ _ rd⟩
section
variable {X : Cx}
theorem dx_raw {pins : List (Addr × Obj)} {σ : L2.St} {H : Hp} {s : Shared} {a : Addr} {o : Obj} {es : List EnT} (I : Inv X pins σ H s) (e : H a = some (DicX X.prog X.w a o es)) : ∃ arr ep, s.heap.DictRaw a arr ep ∧ (a == sysModules) = false ∧ arr.size = es.length ∧ ∀ (i : Nat) (x : EnT), es[i]? = some x → ∃ en, arr[i]? = some en ∧ RelV x.2.1 en.key := by
  obtain ⟨h1, h2, h3⟩ := dx_of I e
  obtain ⟨hx, arr, ep, hd, _⟩ := id h3
  obtain ⟨g1, g2⟩ := h3.ent hd
  exact ⟨arr, ep, ⟨o, h1, hx, hd⟩, h2, g1, g2⟩
theorem cR_listX (hc : X.calm = true) : CallR X (.type "list") (fun xs H Q => ∃ p o es, xs = [.ref p] ∧ H p = some (DicX X.prog X.w p o es) ∧ es.length ≤ sizeLine ∧ ∀ q, H q = none → Q (.ref q) (upd H q (.lst (es.map fun e => e.2.1)))) := by
  intro pins s σ H xs us Q I r h
  obtain ⟨p, o, es, e, hk, z, q⟩ := h
  subst e
  obtain ⟨u, eu, rx⟩ := vals1 r
  subst eu
  obtain rfl : u = Value.ref p := rx
  obtain ⟨arr, ep, hr, lo, hsz, ent⟩ := dx_raw I hk
  refine PySem.W.kdl_call (PySem.KdlSrc.rawDict (es := arr) (ep := ep) lo) (I.ok.hd hc) hr (by rw [hsz]; exact z) fun h' tk acc' c' hkeep hS hacc => ?_
  refine ⟨.ref s.heap.objs.size, upd H s.heap.objs.size (.lst (es.map fun e => e.2.1)), I.laid hkeep (Nat.le_refl _) (show ObjOk X.prog X.w _ _ _ (.lst (es.map fun e => e.2.1)) from ⟨?_, acc'.toList, c', ?_, ?_⟩), rfl, q _ (I.hok.fresh (Nat.le_refl _))⟩
  · rw [List.length_map]; exact z
  · have el : acc'.toList.length = acc'.size := by simp
    refine vals_of_at (by rw [List.length_map, el, hacc.1, hsz]) fun j x w h1 h2 => ?_
    obtain ⟨hi, e1⟩ := hacc.2 j w (by rw [← Array.getElem?_toList]; exact h2)
    rw [List.getElem?_map] at h1
    obtain ⟨en, e2, e3⟩ := Option.map_eq_some_iff.mp h1
    obtain ⟨en', g1, g2⟩ := ent j en e2
    rw [Array.getElem?_eq_getElem hi] at g1
    cases g1
    rw [e1, ← e3]
    exact g2
  · rw [Array.toArray_toList]; exact hS
theorem cR_sortedX (hc : X.calm = true) : CallR X (.builtin "sorted") (fun xs H Q => ∃ p o es, ∃ ks : List Int, xs = [.ref p] ∧ H p = some (DicX X.prog X.w p o es) ∧ es.map (fun e => e.2.1) = ks.map V.int ∧ ks.length < 64 ∧
    ∀ (ys : List Int) (q : Addr), ys.Perm ks → ys.Pairwise (· ≤ ·) → H q = none → Q (.ref q) (upd H q (.lst (ys.map V.int)))) := by
  intro pins s σ H xs us Q I r h
  obtain ⟨p, o, es, ks, e, hk, hks, h64, q⟩ := h
  subst e
  obtain ⟨u, eu, rx⟩ := vals1 r
  subst eu
  obtain rfl : u = Value.ref p := rx
  obtain ⟨arr, ep, hr, lo, hsz, ent⟩ := dx_raw I hk
  have hl : arr.size = ks.length := by
    have := congrArg List.length hks
    rw [List.length_map, List.length_map] at this
    rw [hsz, this]
  refine Calls.call_function_entry PyProof.Rows.kind_sorted PyProof.Rows.plain_sorted PyProof.Rows.entry_sorted (PyProof.Rows.args_sorted1 _) ?_
  unfold Builtin.«sorted»
  refine wpAny_bind (m := checkCount "sorted" 1 1 _) (wpAny_pure ?_)
  refine wpAny_bind (PySem.W.kdu_collect (A := X.A.in1) (PySem.KdlSrc.rawDict (es := arr) (ep := ep) lo) (I.ok.hd hc) hr (by rw [hl, sizeLine_eq]; omega) fun h' tk acc hk hacc => ?_)
  have hal : acc.toList.length = ks.length := by rw [Array.length_toList, hacc.1, hl]
  have hS : IntsAre acc.toList ks := ints_each hal fun j v e => by
    obtain ⟨hi, e1⟩ := hacc.2 j v (by rw [← Array.getElem?_toList]; exact e)
    have hj : j < es.length := by rw [← hsz]; exact hi
    obtain ⟨en, g1, g2⟩ := ent j es[j] (List.getElem?_eq_getElem hj)
    rw [Array.getElem?_eq_getElem hi] at g1
    cases g1
    have hk2 : (es.map fun e => e.2.1)[j]? = some es[j].2.1 := by rw [List.getElem?_map, List.getElem?_eq_getElem hj]; rfl
    rw [hks, List.getElem?_map] at hk2
    obtain ⟨y, hy, hy2⟩ := Option.map_eq_some_iff.mp hk2
    rw [← hy2] at g2
    obtain ⟨t, ht⟩ := (show ∃ t, arr[j].key = Value.int y t from g2)
    exact ⟨y, t, hy, by rw [e1, ht]⟩
  have I1 : Inv X pins σ H { s with heap := h', toks := tk } := I.kept hk
  refine wpAny_bind (wpAny_newList ?_ (by rw [hal, sizeLine_eq]; omega))
  have hoL : (h'.push (seqObj "list" acc.toList.toArray 0)).get? h'.objs.size = some (seqObj "list" acc.toList.toArray 0) := Heap.get?_push_size _ rfl
  show wpAny _ _ _ _ _ { s with heap := h'.push (seqObj "list" acc.toList.toArray 0), toks := tk }
  refine wpAny_bind (wpAny_holding (wpAny_call_entry PyProof.Rows.slot_list_sort ⟨_, hoL, rfl⟩ PyProof.Rows.entry_list_sort
    (PyProof.Rows.list_sort_tree (s := { s with heap := h'.push (seqObj "list" acc.toList.toArray 0), toks := tk }) hoL hS (by rw [hal]; exact h64) fun out ys g1 g2 g3 => ⟨_, rfl, ?_⟩) (PyProof.Rows.args_list_sort _)))
  obtain ⟨e', he'⟩ := PyProof.Rows.sortedHeap_at (vs := acc.toList) (out := out) hoL
  have hlen : (ys.map V.int).length ≤ sizeLine := by
    rw [List.length_map, g2.length_eq]
    exact Nat.le_trans (Nat.le_of_lt h64) (by decide)
  refine wpAny_pure ⟨_, rfl, .ref h'.objs.size, upd H h'.objs.size (.lst (ys.map V.int)), I1.laid (t' := tk) (fun b u e => ?_) (Nat.le_refl _)
    (show ObjOk X.prog X.w _ _ _ (.lst (ys.map V.int)) from ⟨hlen, out.toList, e', vals_of_ints g1, by rw [Array.toArray_toList]; exact he'⟩), rfl, q ys _ g2 g3 (I1.hok.fresh (Nat.le_refl _))⟩
  have hb : b < h'.objs.size := Heap.lt_size e
  rw [PyProof.Rows.sortedHeap_old (Nat.ne_of_lt hb) (by rw [size_push']; exact Nat.lt_succ_of_lt hb)]
  exact Heap.get?_push_of_some _ e
end
theorem mem_insI {i x : Int} : ∀ {l : List Int}, x ∈ insI i l ↔ x = i ∨ x ∈ l
  | [] => by simp [insI]
  | j :: r => by
    rw [insI]
    split
    · simp
    · rw [List.mem_cons, mem_insI, List.mem_cons]
      constructor
      · rintro (h | h | h) <;> simp [h]
      · rintro (h | h | h) <;> simp [h]
theorem insI_perm {i : Int} : ∀ {l : List Int}, (insI i l).Perm (i :: l)
  | [] => by rw [insI]
  | j :: r => by
    rw [insI]
    split
    · exact List.Perm.refl _
    · exact (List.Perm.cons j insI_perm).trans (List.Perm.swap i j r)
theorem sortI_perm : ∀ l : List Int, (sortI l).Perm l
  | [] => List.Perm.refl _
  | i :: l => by
    rw [sortI]
    exact insI_perm.trans (List.Perm.cons i (sortI_perm l))
theorem insI_pw {i : Int} : ∀ {l : List Int}, l.Pairwise (· ≤ ·) → (insI i l).Pairwise (· ≤ ·)
  | [], _ => by simp [insI]
  | j :: r, h => by
    obtain ⟨h1, h2⟩ := List.pairwise_cons.mp h
    rw [insI]
    split
    · rename_i hp
      refine List.pairwise_cons.mpr ⟨fun x hx => ?_, h⟩
      rcases List.mem_cons.mp hx with rfl | hx
      · exact hp
      · exact Int.le_trans hp (h1 x hx)
    · rename_i hp
      refine List.pairwise_cons.mpr ⟨fun x hx => ?_, insI_pw h2⟩
      rcases mem_insI.mp hx with rfl | hx
      · omega
      · exact h1 x hx
theorem sortI_pw : ∀ l : List Int, (sortI l).Pairwise (· ≤ ·)
  | [] => .nil
  | i :: l => insI_pw (sortI_pw l)
theorem sorted_uniq {l m : List Int} (h1 : l.Pairwise (· ≤ ·)) (h2 : m.Pairwise (· ≤ ·)) (hp : l.Perm m) : l = m :=
  List.Perm.eq_of_pairwise (fun a b _ _ h1 h2 => Int.le_antisymm h1 h2) h1 h2 hp
theorem keys_rvs {K : PySem.W.Frag} {S : Sg} {H : Hp} {kvs : List D} {es : List EnT} (d : DEn K S H kvs es) : RVs K S H (keysD kvs) (es.map fun e => e.2.1) := by
  induction d with
  | nil => exact .nil
  | cons h1 h2 h3 h4 _ ih => rw [keysD]; exact .cons h3 ih
section
variable {k : Nat} {G : Nm} {gc : Gc} {cl : Cl} {N : List Str} {X : Cx} {sc : Scope} {top : Bool} {E : XK}
theorem s_lsk (C : Cok X N sc top E k G gc cl) {x : Ex} {y : PySem.Expr} {p pp : Pos} (h1 : glb sc "list" = true) (h2 : notSt y = true) (px : PE X y (tE X.K X.mg G gc cl E x)) : PE X (.Call (.Name "list" p) [y] [] pp) (tE X.K X.mg G gc cl E (.lsk x)) := by
  refine PE.imp (pe_callTy (cR_listX C.calm) (C.gl h1) (C.free (by decide)) boot_list (pa_cons px pa_nil (star_cons h2)) (by decide) (by decide) (star_cons h2) rfl) fun σ H Q q => ?_
  obtain ⟨S, e, h, r, re, hb⟩ := q
  unfold evE at hb
  refine stepE r re hb fun a S1 H1 v x1 r1 re1 ra hb1 => ?_
  split at hb1
  · rename_i kvs ek
    obtain ⟨p, o, es, rfl, hp, dk, rv⟩ := ra.dct r1 ek
    rw [C.dx] at hp
    obtain ⟨z, ez, dl⟩ := lfD_ok hb1
    unfold lskD at ez
    split at ez
    · rename_i hl
      cases ez
      refine ⟨p, o, es, rfl, hp, ?_, fun q hq => dl.lst r1 (keys_rvs (den_of dk rv)) q hq⟩
      rw [← (den_of dk rv).klen]
      exact Nat.le_trans hl lim_le
    · cases ez
  · exact hb1.elim
theorem s_srk (C : Cok X N sc top E k G gc cl) {x : Ex} {y : PySem.Expr} {p pp : Pos} (h1 : glb sc "sorted" = true) (h2 : notSt y = true) (px : PE X y (tE X.K X.mg G gc cl E x)) : PE X (.Call (.Name "sorted" p) [y] [] pp) (tE X.K X.mg G gc cl E (.srk x)) := by
  refine PE.imp (pe_callB (cR_sortedX C.calm) (C.gl h1) (C.free (by decide)) boot_sorted (pa_cons px pa_nil (star_cons h2)) (by decide) (by decide) (star_cons h2) rfl) fun σ H Q q => ?_
  obtain ⟨S, e, h, r, re, hb⟩ := q
  unfold evE at hb
  refine stepE r re hb fun a S1 H1 v x1 r1 re1 ra hb1 => ?_
  split at hb1
  · rename_i kvs ek
    obtain ⟨p, o, es, rfl, hp, dk, rv⟩ := ra.dct r1 ek
    rw [C.dx] at hp
    obtain ⟨z, ez, dl⟩ := lfD_ok hb1
    unfold srkD at ez
    obtain ⟨is, hi, ez⟩ := Option.bind_eq_some_iff.mp ez
    split at ez
    · rename_i hl
      cases ez
      have hk := keys_rvs (den_of dk rv)
      refine ⟨p, o, es, is, rfl, hp, hk.ints hi, hl, fun ys q hy hpw hq => ?_⟩
      have : ys = sortI is := sorted_uniq hpw (sortI_pw is) (hy.trans (sortI_perm is).symm)
      subst this
      have hr : ∀ l : List Int, RVs X.K S1 H1 (l.map D.int) (l.map V.int) := fun l => by
        induction l with
        | nil => exact .nil
        | cons i l ih => exact .cons (by unfold RV; rfl) ih
      exact dl.lst r1 (hr _) q hq
    · cases ez
  · exact hb1.elim
end
def putAllT (ea es : List EnT) : List EnT := es.foldl (fun acc e => putT acc e.1 e.2.1 e.2.2) ea
section
variable {K : PySem.W.Frag} {S : Sg} {H : Hp}
def PrT (K : PySem.W.Frag) (H : Hp) : List V → List EnT → Prop := Paired fun (w : V) (e : EnT) => (∃ T, w = .ref T ∧ SqT K H T [e.2.1, e.2.2]) ∧ NIs K H e.1 e.2.1 ∧ isTK e.1 = true ∧ e.1.depth ≤ 8
theorem pairs_ok : ∀ {ps : List D} {ws : List V} {acc kvs : List D} {ea : List EnT}, RVs K S H ps ws → pairsL acc ps = some kvs → DKeys acc ea → RVs K S H acc (flatE ea) →
    ∃ es, PrT K H ws es ∧ es.length = ps.length ∧ DKeys kvs (putAllT ea es) ∧ RVs K S H kvs (flatE (putAllT ea es))
  | [], ws, acc, kvs, ea, q, e, dk, rv => by
    rw [pairsL] at e
    cases e
    rw [q.nil_iff]
    exact ⟨[], .nil, rfl, dk, rv⟩
  | d :: ps, ws, acc, kvs, ea, q, e, dk, rv => by
    obtain ⟨w, t, rfl, q1, q2⟩ := q.of_cons
    unfold pairsL at e
    split at e
    · rename_i h; cases h
    · rename_i k v r h
      cases h
      split at e
      · rename_i hk
        simp only [Bool.and_eq_true] at hk
        obtain ⟨⟨hk1, hk2⟩, hk3⟩ := hk
        unfold RV at q1
        obtain ⟨T, us, rfl, hT, q1⟩ := q1
        obtain ⟨y, t1, rfl, ry, q1⟩ := q1.of_cons
        obtain ⟨u, t2, rfl, ru, q1⟩ := q1.of_cons
        cases q1.nil_iff
        obtain ⟨p1, p2⟩ := put_keys (y := y) (v := u) dk rv hk1 ry ru
        obtain ⟨es, g1, g2, g3, g4⟩ := pairs_ok q2 e p1 p2
        obtain ⟨z1, z2, _⟩ := kk_ok hk1
        exact ⟨(nk k, y, u) :: es, .cons ⟨⟨T, rfl, hT⟩, RV.nis 8 k y z1 ry, (isTK_nk z2).trans hk2, nk_depth 8 k z1⟩ g1, by rw [List.length_cons, List.length_cons, g2], g3, g4⟩
      · cases e
    · cases e
end
theorem TnV.putAll : ∀ {es : List EnT} {xs : List (NestedKey × Addr × Value)} {ea : List EnT} {xa : List (NestedKey × Addr × Value)}, TnV es xs → TnV ea xa → TnV (putAllT ea es) (storedAllH xa xs) := by
  intro es xs ea xa h
  unfold TnV at h
  induction h generalizing ea xa with
  | nil => exact fun h => h
  | @cons p q ps qs h1 h2 ih =>
    intro ha
    show TnV (putAllT (putT ea p.1 p.2.1 p.2.2) ps) (storedAllH (storedH xa q.1 q.2.1 q.2.2) qs)
    refine ih ?_
    rw [h1.1, h1.2.1]
    exact TnV.put ha h1.2.2
section
variable {X : Cx}
theorem cR_dictX (hc : X.calm = true) (hu : X.A.units + 20 < cLine) : CallR X (.type "dict") (fun vs H Q => ∃ a ws es, vs = [.ref a] ∧ H a = some (.lst ws) ∧ PrT X.K H ws es ∧ ∀ p o, H p = none → Q (.ref p) (upd H p (DicX X.prog X.w p o (putAllT [] es)))) := by
  intro pins s σ H vs us Q I r h
  obtain ⟨a, ws, es, e, ha, pr, q⟩ := h
  subst e
  obtain ⟨u, eu, rx⟩ := vals1 r
  subst eu
  obtain rfl : u = Value.ref a := rx
  obtain ⟨hz, its, n, rv, hl⟩ := (show ws.length ≤ sizeLine ∧ ∃ (its : List Value) (n : Nat), Vals ws its ∧ s.heap.get? a = some { cls := .type "list", data := .seq its.toArray n } from I.hok a _ ha)
  have key : ∀ {ws : List V} {es : List EnT} {its : List Value}, PrT X.K H ws es → Vals ws its → ∃ (xs : List (NestedKey × Addr × Value)) (Ts : List Addr), its = Ts.map Value.ref ∧ Ts.length = xs.length ∧ TnV es xs ∧ (∀ x ∈ xs, (nestedKind X.prog X.w).is s.heap x.1 x.2.1) ∧ ∀ (j : Nat) x, xs[j]? = some x → ∃ T, Ts[j]? = some T ∧ PairAt s.heap T (.ref x.2.1) x.2.2 := by
    intro ws es its pr
    unfold PrT at pr
    induction pr generalizing its with
    | nil =>
      intro rv
      cases rv
      exact ⟨[], [], rfl, rfl, .nil, (fun x hx => nomatch hx), (fun j x hx => nomatch (show (none : Option (NestedKey × Addr × Value)) = some x from (by rw [← hx]; rfl)))⟩
    | @cons w e ws es h1 h2 ih =>
      intro rv
      cases rv with
      | @cons _ u0 _ us0 r1 r2 =>
        obtain ⟨xs, Ts, i1, i2, i3, i4, i5⟩ := ih r2
        obtain ⟨⟨T, rfl, hT⟩, hk, ht, hd⟩ := h1
        obtain rfl : u0 = Value.ref T := r1
        obtain ⟨its2, rv2, p2, _⟩ := I.tuple hT
        obtain ⟨u1, u2, rfl, ry, rw'⟩ := vals2 rv2
        obtain ⟨ek, ey, ew⟩ := e
        cases ek with
        | tup ks =>
          have gk : NIs X.K H (.tup ks) ey := hk
          unfold NIs at gk
          obtain ⟨b, vs', rfl, _⟩ := id gk
          obtain rfl : u1 = Value.ref b := ry
          refine ⟨(.tup ks, b, u2) :: xs, T :: Ts, by rw [i1]; rfl, by rw [List.length_cons, List.length_cons, i2], .cons ⟨rfl, rfl, rw'⟩ i3, fun x hx => ?_, fun j x hx => ?_⟩
          · rcases List.mem_cons.mp hx with rfl | hx
            · exact ⟨NIs.ok I _ _ _ hk rfl, hd⟩
            · exact i4 x hx
          · cases j with
            | zero =>
              simp only [List.getElem?_cons_zero, Option.some.injEq] at hx
              subst hx
              exact ⟨T, rfl, .inl p2⟩
            | succ j =>
              simp only [List.getElem?_cons_succ] at hx ⊢
              exact i5 j x hx
        | none => cases ht
        | num i => cases ht
        | text i => cases ht
  obtain ⟨xs, Ts, i1, i2, i3, i4, i5⟩ := key pr rv
  have hlx : its.length = xs.length := by rw [i1, List.length_map, i2]
  have hql : (xs.map fun x => (Value.ref x.2.1, x.2.2)).length = xs.length := List.length_map ..
  refine call_dict_pairsH (knd := nestedKind X.prog X.w) (ps := xs) (PairArg.list a its.toArray (fun j => Ts.getD j 0) (xs.map fun x => (Value.ref x.2.1, x.2.2))) (I.ok.hd hc) (show X.A.units + 1 + 1 + 8 < cLine by omega)
    ⟨⟨_, n, hl, rfl, rfl, rfl⟩, by simp [hlx], fun j k v hj => ?_⟩ ⟨hql.symm, fun i key v hi => ?_⟩ (fun h' hk x hx => nestedKind_stays.stays (fun b o vs m e _ => hk b o (Nat.ne_of_lt (Heap.lt_size e)) (fun z => nomatch z) e) (i4 x hx)) (by rw [hql, ← hlx, ← rv.length]; exact hz) fun h' tk dd hk => ?_
  · rw [List.getElem?_map] at hj
    obtain ⟨x, hx, e⟩ := Option.map_eq_some_iff.mp hj
    cases e
    obtain ⟨T, g1, g2⟩ := i5 j x hx
    have hT : Ts.getD j 0 = T := by rw [List.getD_eq_getElem?_getD, g1]; rfl
    show its.toArray[j]? = some (Value.ref (Ts.getD j 0)) ∧ PairAt s.heap (Ts.getD j 0) (Value.ref x.2.1) x.2.2
    rw [hT]
    refine ⟨?_, g2⟩
    rw [i1]
    simp [g1]
  · have hi : (xs.map fun x => (Value.ref x.2.1, x.2.2))[i]? = some (key, v) := hi
    rw [List.getElem?_map] at hi
    obtain ⟨x, hx, e⟩ := Option.map_eq_some_iff.mp hi
    cases e
    exact ⟨x.1, x.2.1, hx, rfl⟩
  · obtain ⟨qo, arr, ep, hq, g2, g3, g4, _, g5⟩ := dd
    refine ⟨.ref s.heap.objs.size, _, I.laid (a := s.heap.objs.size) (t' := tk) (o := DicX X.prog X.w s.heap.objs.size qo (putAllT [] es)) (fun b o e => hk b o (fun z => nomatch z) e) (Nat.le_refl _) (dx_new hq ?_ ⟨g2, arr, ep, g3, .inl ⟨_, TnV.putAll i3 .nil, g4, g5⟩⟩), rfl, q _ qo (I.hok.fresh (Nat.le_refl _))⟩
    exact beq_eq_false_iff_ne.mpr (Ne.symm (Nat.ne_of_lt I.big))
end
section
variable {k : Nat} {G : Nm} {gc : Gc} {cl : Cl} {N : List Str} {X : Cx} {sc : Scope} {top : Bool} {E : XK}
theorem Dl.dct {K : PySem.W.Frag} {S : Sg} {H : Hp} {h : Hq} {Q : VK} {kvs : List D} {es : List EnT} (d : Dl K S H h (.dct kvs) Q) (r : RelH K S H h) (dk : DKeys kvs es) (rv : RVs K S H kvs (flatE es)) : ∀ p o, H p = none → Q (.ref p) (upd H p (DicX PWc.P PWc.w p o es)) := fun p o np => by
  refine d (S.frz p) (.ref p) _ (ext_frz np) (r.frzG np nt_dicx) ?_
  unfold RV
  exact ⟨p, o, es, _, rfl, upd_same, .inr rfl, dk, rfl, RVs.ext r (ext_frz np) kvs _ rv⟩
theorem s_dcl (C : Cok X N sc top E k G gc cl) {x : Ex} {y : PySem.Expr} {p pp : Pos} (h1 : glb sc "dict" = true) (h2 : notSt y = true) (px : PE X y (tE X.K X.mg G gc cl E x)) : PE X (.Call (.Name "dict" p) [y] [] pp) (tE X.K X.mg G gc cl E (.dcl x)) := by
  refine PE.imp (pe_callTy (cR_dictX C.calm (by have := C.room.units; omega)) (C.gl h1) (C.free (by decide)) (by first | exact boot_dict | rfl) (pa_cons px pa_nil (star_cons h2)) (by decide) (by decide) (star_cons h2) rfl) fun σ H Q q => ?_
  obtain ⟨S, e, h, r, re, hb⟩ := q
  unfold evE at hb
  refine stepE r re hb fun a S1 H1 v x1 r1 re1 ra hb1 => ?_
  split at hb1
  · rename_i ps
    split at hb1
    · rename_i kvs hp
      have ra : RV X.K S1 H1 (.lst ps) v := ra
      unfold RV at ra
      obtain ⟨a, ws, rfl, ha, f, q⟩ := ra
      unfold pairsD at hp
      split at hp
      · obtain ⟨es, g1, g2, g3, g4⟩ := pairs_ok (ea := []) q hp ⟨rfl, fun k hk => (by simp [keysD] at hk), (fun k hk => (by simp [keysD] at hk)), List.nodup_nil⟩ .nil
        refine ⟨a, ws, es, rfl, ha, g1, fun p o hp => ?_⟩
        rw [← C.dx]
        exact (okD hb1).dct r1 g3 g4 p o hp
      · cases hp
    · exact hb1.elim
  · exact hb1.elim
end
end Bk
namespace Bk
open PySem PySem.Spec PyProof.Rows L2
mutual
def unk : NestedKey → D
  | .none => .non
  | .num i => .int i
  | .text s => .str s.cps.toList
  | .tup ks => .tup (unks ks)
def unks : List NestedKey → List D
  | [] => []
  | k :: ks => unk k :: unks ks
end
mutual
theorem unk_nk : ∀ (n : Nat) (d : D), D.keyD n d = true → unk (nk d) = d
  | n, .non, _ => rfl
  | n, .bl b, h => by cases n <;> simp [D.keyD] at h
  | n, .int i, _ => rfl
  | n, .str s, _ => by simp [nk, unk]
  | 0, .tup xs, h => by simp [D.keyD] at h
  | n + 1, .tup xs, h => by
    have := unks_nks n xs (by simpa [D.keyD] using h)
    simp only [nk, unk, this]
  | n, .lst xs, h => by cases n <;> simp [D.keyD] at h
  | n, .opq k, h => by cases n <;> simp [D.keyD] at h
  | n, .obj c k, h => by cases n <;> simp [D.keyD] at h
  | n, .dct k, h => by cases n <;> simp [D.keyD] at h
theorem unks_nks : ∀ (n : Nat) (ds : List D), D.keyDs n ds = true → unks (nks ds) = ds
  | n, [], _ => rfl
  | n, d :: ds, h => by
    simp only [D.keyDs, Bool.and_eq_true] at h
    simp only [nks, unks, unk_nk n d h.1, unks_nks n ds h.2]
end
mutual
theorem alk_alike : ∀ x y : D, alk x y = true → W.alike (toPy x) (toPy y) = true
  | .int i, y, h => by
    cases y <;> first | (cases h; done) | skip
    simp [toPy, W.alike]
  | .str s, y, h => by
    cases y <;> first | (cases h; done) | skip
    simp [toPy, W.alike]
  | .tup xs, y, h => by
    cases y <;> first | (cases h; done) | skip
    simp only [toPy, W.alike]
    exact alks_alike _ _ h
  | .non, y, h => by cases y <;> cases h
  | .bl _, y, h => by cases y <;> cases h
  | .lst _, y, h => by cases y <;> cases h
  | .opq _, y, h => by cases y <;> cases h
  | .obj _ _, y, h => by cases y <;> cases h
  | .dct _, y, h => by cases y <;> cases h
theorem alks_alike : ∀ xs ys : List D, alks xs ys = true → W.alikeAll (toPys xs) (toPys ys) = true
  | [], [], _ => by simp [toPys, W.alikeAll]
  | [], _ :: _, _ => by simp [toPys, W.alikeAll]
  | _ :: _, [], _ => by simp [toPys, W.alikeAll]
  | x :: xs, y :: ys, h => by
    rw [alks, Bool.and_eq_true] at h
    rw [toPys, toPys, W.alikeAll, alk_alike x y h.1, alks_alike xs ys h.2]
    rfl
end
mutual
theorem eqv_same : ∀ x y : D, alk x y = true → PyData.eqv (toPy x) (toPy y) = D.same x y
  | .int i, y, h => by
    cases y <;> first | (cases h; done) | skip
    simp [toPy, PyData.eqv, D.same]
  | .str s, y, h => by
    cases y <;> first | (cases h; done) | skip
    rename_i t
    simp only [toPy, PyData.eqv, D.same]
    rw [Bool.eq_iff_iff, beq_iff_eq, beq_iff_eq, Str.mk.injEq]
    exact ⟨fun e => by simpa using e, fun e => by rw [e]⟩
  | .tup xs, y, h => by
    cases y <;> first | (cases h; done) | skip
    simp only [toPy, PyData.eqv, D.same]
    exact eqvs_same _ _ h
  | .non, y, h => by cases y <;> cases h
  | .bl _, y, h => by cases y <;> cases h
  | .lst _, y, h => by cases y <;> cases h
  | .opq _, y, h => by cases y <;> cases h
  | .obj _ _, y, h => by cases y <;> cases h
  | .dct _, y, h => by cases y <;> cases h
theorem eqvs_same : ∀ xs ys : List D, alks xs ys = true → PyData.eqvAll (toPys xs) (toPys ys) = D.sames xs ys
  | [], [], _ => by simp [toPys, PyData.eqvAll, D.sames]
  | [], _ :: _, _ => by simp [toPys, PyData.eqvAll, D.sames]
  | _ :: _, [], _ => by simp [toPys, PyData.eqvAll, D.sames]
  | x :: xs, y :: ys, h => by
    rw [alks, Bool.and_eq_true] at h
    rw [toPys, toPys, PyData.eqvAll, D.sames, eqv_same x y h.1, eqvs_same xs ys h.2]
end
theorem ltS_lt : ∀ a b : List Nat, ltS a b = decide (a < b)
  | [], [] => by simp [ltS]
  | [], _ :: _ => by simp [ltS]
  | _ :: _, [] => by simp [ltS]
  | x :: a, y :: b => by
    rw [ltS, ltS_lt a b]
    by_cases h : x < y
    · simp [h, List.cons_lt_cons_iff]
    · by_cases h2 : x = y
      · subst h2
        simp [List.cons_lt_cons_iff]
      · have : (x == y) = false := beq_eq_false_iff_ne.mpr h2
        simp [h, h2, List.cons_lt_cons_iff]
mutual
theorem lt_ltK : ∀ x y : D, alk x y = true → W.dataLt (toPy x) (toPy y) = ltK x y
  | .int i, y, h => by
    cases y <;> first | (cases h; done) | skip
    simp only [toPy, ltK]
    exact W.dataLt_int _ _
  | .str s, y, h => by
    cases y <;> first | (cases h; done) | skip
    simp only [toPy, ltK]
    rw [W.dataLt_str, ltS_lt]
  | .tup xs, y, h => by
    cases y <;> first | (cases h; done) | skip
    simp only [toPy, ltK]
    rw [W.dataLt_tuple]
    exact lt_ltKs _ _ h
  | .non, y, h => by cases y <;> cases h
  | .bl _, y, h => by cases y <;> cases h
  | .lst _, y, h => by cases y <;> cases h
  | .opq _, y, h => by cases y <;> cases h
  | .obj _ _, y, h => by cases y <;> cases h
  | .dct _, y, h => by cases y <;> cases h
theorem lt_ltKs : ∀ xs ys : List D, alks xs ys = true → PyProof.Rows.lexLt itemOrd (W.keyToksAll (toPys xs)) (W.keyToksAll (toPys ys)) = ltKs xs ys
  | [], [], _ => by
    rw [ltKs_no]
    exact lex_irrefl _
  | [], y :: ys, _ => by
    rw [toPys, toPys, W.toks_all_cons]
    simp only [W.keyToksAll]
    rw [lex_diff (O := itemOrd) (by simp)]
    rfl
  | x :: xs, [], _ => by
    rw [toPys, toPys, W.toks_all_cons]
    simp only [W.keyToksAll]
    rw [lex_diff (O := itemOrd) (by simp)]
    rfl
  | x :: xs, y :: ys, h => by
    rw [alks, Bool.and_eq_true] at h
    rw [toPys, toPys, W.dataLt_cons (alk_alike x y h.1), eqv_same x y h.1, lt_ltKs xs ys h.2, lt_ltK x y h.1, ltKs]
    cases D.same x y <;> rfl
end
section
variable [MF] [PWc] {X : Cx} {S : Sg} {H : Hp} {h : Hq}
theorem places {K : PySem.W.Frag} : ∀ {xs : List D} {vs : List V}, RVs K S H xs vs → (∀ x ∈ xs, isTup x = true) → ∃ ks : List (Addr × D), vs = (ks.map fun u => V.ref u.1) ∧ ks.map (·.2) = xs ∧ ∀ u ∈ ks, RV K S H u.2 (.ref u.1)
  | [], vs, q, _ => ⟨[], q.nil_iff, rfl, fun u hu => nomatch hu⟩
  | x :: xs, vs, q, hx => by
    obtain ⟨v, t, rfl, q1, q2⟩ := q.of_cons
    obtain ⟨ks, rfl, e2, e3⟩ := places q2 fun y hy => hx y (List.mem_cons_of_mem _ hy)
    have h1 := hx x List.mem_cons_self
    cases x <;> first | (cases h1; done) | skip
    rename_i ys
    have q0 := q1
    unfold RV at q1
    obtain ⟨a, ws, rfl, _, _⟩ := q1
    refine ⟨(a, .tup ys) :: ks, rfl, by rw [List.map_cons, e2], fun u hu => ?_⟩
    rcases List.mem_cons.mp hu with rfl | hu
    · exact q0
    · exact e3 u hu
theorem seq_at {a : Vv} {v : V} {x0 : D} {xs : List D} (r : RelH X.K S H h) (ra : RW X.K S H a v) (ea : rdV h a = some x0) (ex : seqK x0 = some xs) : ∃ p vs, v = .ref p ∧ (SqL X.K H p vs ∨ SqT X.K H p vs) ∧ RVs X.K S H xs vs := by
  cases x0 <;> first | (cases ex; done) | skip
  · cases ex
    obtain ⟨p, vs, e, t, q⟩ := ra.tup r ea
    exact ⟨p, vs, e, .inr t, q⟩
  · cases ex
    obtain ⟨p, vs, e, t, q⟩ := ra.lst r ea
    exact ⟨p, vs, e, .inl (SqL.of t), q⟩
theorem setN_ok {a : Vv} {v : V} {xs : List D} {r2 : List V → Hp → Prop} {D0 : List D} (r : RelH X.K S H h) (ra : RW X.K S H a v) {x0 : D} (ea : rdV h a = some x0) (ex : seqK x0 = some xs) (hx : ∀ x ∈ xs, isTup x = true ∧ D.keyD 8 x = true) (hD : ∀ x ∈ xs, x ∈ D0) (hl : D0.length ≤ 299)
    (k : ∀ a0 (L : List EnN), Ext S H S (upd H a0 (SetNO X.prog X.w a0 L)) → RelH X.K S (upd H a0 (SetNO X.prog X.w a0 L)) h → (∀ p ∈ L, EnOk X.K (upd H a0 (SetNO X.prog X.w a0 L)) p) → (∀ p ∈ L, unk p.2 ∈ xs ∧ nk (unk p.2) = p.2 ∧ RV X.K S (upd H a0 (SetNO X.prog X.w a0 L)) (unk p.2) (.ref p.1)) → (∀ x ∈ xs, x ∈ L.map fun p => unk p.2) → (L.map fun p => unk p.2).Nodup → upd H a0 (SetNO X.prog X.w a0 L) a0 = some (SetNO X.prog X.w a0 L) → r2 [.ref a0] (upd H a0 (SetNO X.prog X.w a0 L))) :
    rSetOfN X.K X.prog X.w [v] H fun v2 H2 => r2 [v2] H2 := by
  obtain ⟨p, vs, rfl, t, q⟩ := seq_at r ra ea ex
  obtain ⟨ks, rfl, e2, e3⟩ := places q fun x hx' => (hx x hx').1
  have hk : ∀ u ∈ ks, u.2 ∈ xs := fun u hu => by rw [← e2]; exact List.mem_map_of_mem hu
  have hkd : ∀ u ∈ ks, D.keyD 8 u.2 = true := fun u hu => (hx u.2 (hk u hu)).2
  have em : (ks.map fun u => ((u.1, nk u.2) : EnN)).map (fun p => V.ref p.1) = ks.map fun u => V.ref u.1 := by rw [List.map_map]; rfl
  refine ⟨p, ks.map fun u => (u.1, nk u.2), D0.map nk, rfl, by rw [em]; exact t, fun q hq => ?_, fun q hq => ?_, by rw [List.length_map]; exact hl, fun a0 L ha0 hL hL2 nd => ?_⟩
  · obtain ⟨u, hu, rfl⟩ := List.mem_map.mp hq
    exact ⟨RV.nis 8 _ _ (hkd u hu) (e3 u hu), nk_depth 8 _ (hkd u hu)⟩
  · obtain ⟨u, hu, rfl⟩ := List.mem_map.mp hq
    exact List.mem_map_of_mem (hD _ (hk u hu))
  · have xn : Ext S H S (upd H a0 (SetNO X.prog X.w a0 L)) := ext_new ha0
    have rn : RelH X.K S (upd H a0 (SetNO X.prog X.w a0 L)) h := r.new ha0
    have inL : ∀ p ∈ L, ∃ u ∈ ks, p = (u.1, nk u.2) ∧ unk p.2 = u.2 := fun p hp => by
      obtain ⟨u, hu, rfl⟩ := List.mem_map.mp (hL p hp)
      exact ⟨u, hu, rfl, unk_nk 8 _ (hkd u hu)⟩
    have rvL : ∀ p ∈ L, unk p.2 ∈ xs ∧ nk (unk p.2) = p.2 ∧ RV X.K S (upd H a0 (SetNO X.prog X.w a0 L)) (unk p.2) (.ref p.1) := fun p hp => by
      obtain ⟨u, hu, e, e1⟩ := inL p hp
      rw [e1]
      subst e
      exact ⟨hk u hu, rfl, RV.ext r xn _ _ (e3 u hu)⟩
    refine k a0 L xn rn (fun p hp => ?_) rvL (fun x hx' => ?_) ?_ upd_same
    · obtain ⟨h1, h2, h3⟩ := rvL p hp
      have kd := (hx _ h1).2
      exact ⟨by rw [← h2]; exact RV.nis 8 _ _ kd h3, by rw [← h2]; exact nk_depth 8 _ kd⟩
    · rw [← e2] at hx'
      obtain ⟨u, hu, rfl⟩ := List.mem_map.mp hx'
      have := hL2 _ (List.mem_map_of_mem (f := fun u : Addr × D => ((u.1, nk u.2) : EnN)) hu)
      obtain ⟨p, hp, e⟩ := List.mem_map.mp this
      refine List.mem_map.mpr ⟨p, hp, ?_⟩
      rw [e]
      exact unk_nk 8 _ (hkd u hu)
    · refine List.pairwise_map.mpr (List.Pairwise.imp_of_mem (fun {p q} hp hq hne e => hne ?_) (List.pairwise_map.mp nd))
      rw [← (rvL p hp).2.1, ← (rvL q hq).2.1, e]
theorem sstN_ok {a : Vv} {v : V} {x z : D} {Q : VK} (r : RelH X.K S H h) (ra : RW X.K S H a v) (ea : rdV h a = some x) (hz : sstN x = some z) (dl : Dl X.K S H h z Q) :
    rSetOfN X.K X.prog X.w [v] H fun v2 H2 => rSortedN X.K X.prog X.w [v2] H2 Q := by
  obtain ⟨xs, ex, hz⟩ := Option.bind_eq_some_iff.mp hz
  unfold sstL at hz
  · skip
    split at hz
    · rename_i hc
      cases hz
      simp only [Bool.and_eq_true] at hc
      obtain ⟨⟨⟨⟨c1, c2⟩, c3⟩, c4⟩, c5⟩ := hc
      have c2' : ∀ x ∈ xs, isTup x = true ∧ D.keyD 8 x = true ∧ D.shp 8 x = true := fun x hx => by
        have := List.all_eq_true.mp c2 x hx
        simp only [Bool.and_eq_true] at this
        exact ⟨this.1.1, this.1.2, this.2⟩
      have c3' : ∀ x ∈ xs, ∀ y ∈ xs, alk x y = true := fun x hx y hy => List.all_eq_true.mp (List.all_eq_true.mp c3 x hx) y hy
      refine setN_ok (r2 := fun vs H2 => rSortedN X.K X.prog X.w vs H2 Q) (D0 := sortK xs) r ra ea ex (fun x hx => ⟨(c2' x hx).1, (c2' x hx).2.1⟩) (fun x hx => mem_sortK.mpr hx) (Nat.le_of_ble_eq_true c4) fun a0 L xn rn eo rv hx nd us => ?_
      have tn : ∀ d, isTup d = true → toPy d ≠ .none := fun d hd => by cases d <;> simp [isTup, toPy] at hd ⊢
      refine ⟨a0, L, fun p => toPy (unk p.2), rfl, us, eo, fun p hp => ?_, fun d hd d' hd' => ?_, ?_, fun L' p' pm pw hp' => ?_⟩
      · have hs := (c2' _ (rv p hp).1).2.2
        have := (shp_lay 8 _ hs).2
        exact ⟨RV.dp 8 _ _ hs (rv p hp).2.2, by show (toPy (unk p.2)).depth ≤ 30; omega⟩
      · obtain ⟨p, hp, rfl⟩ := List.mem_map.mp hd
        obtain ⟨q, hq, rfl⟩ := List.mem_map.mp hd'
        exact alk_alike _ _ (c3' _ (rv p hp).1 _ (rv q hq).1)
      · rw [Bool.or_eq_true] at c5
        rcases c5 with c5 | c5
        · refine .inl (.inl fun d hd => ?_)
          obtain ⟨p, hp, rfl⟩ := List.mem_map.mp hd
          have := List.all_eq_true.mp c5 _ (rv p hp).1
          show ∃ x r, toPy (unk p.2) = .tuple (x :: r)
          generalize unk p.2 = d at this
          unfold neTup at this
          split at this
          · exact ⟨_, _, rfl⟩
          · cases this
        · refine .inr ⟨?_, fun d hd => ?_⟩
          · have c5 := Nat.le_of_ble_eq_true c5
            rw [List.length_map]
            have hle : (L.map fun p => unk p.2).length ≤ (sortK xs).length := by
              have nd2 : ((L.map fun p => unk p.2).map nk).Nodup := by
                refine List.pairwise_map.mpr (List.Pairwise.imp_of_mem (fun {p q} hp hq hne e => hne ?_) nd)
                obtain ⟨p', hp', rfl⟩ := List.mem_map.mp hp
                obtain ⟨q', hq', rfl⟩ := List.mem_map.mp hq
                exact nk_inj 8 8 _ _ (c2' _ (rv p' hp').1).2.1 (c2' _ (rv q' hq').1).2.1 e
              have := nodup_len ((L.map fun p => unk p.2).map nk) ((sortK xs).map nk) nd2 fun y hy => by
                obtain ⟨d, hd, rfl⟩ := List.mem_map.mp hy
                obtain ⟨p, hp, rfl⟩ := List.mem_map.mp hd
                exact List.mem_map_of_mem (mem_sortK.mpr (rv p hp).1)
              rw [List.length_map, List.length_map (as := sortK xs)] at this
              exact this
            rw [List.length_map] at hle
            omega
          · obtain ⟨p, hp, rfl⟩ := List.mem_map.mp hd
            exact tn _ (c2' _ (rv p hp).1).1
      · have rvs : ∀ (M : List EnN), (∀ p ∈ M, p ∈ L) → RVs X.K S (upd H a0 (SetNO X.prog X.w a0 L)) (M.map fun p => unk p.2) (M.map fun q => V.ref q.1) := fun M => by
          induction M with
          | nil => exact fun _ => .nil
          | cons p M ih => exact fun hM => .cons (rv p (hM p List.mem_cons_self)).2.2 (ih fun q hq => hM q (List.mem_cons_of_mem _ hq))
        have nd' : (L'.map fun p => unk p.2).Nodup := (pm.map _).nodup_iff.mpr nd
        have pwN : (L'.map fun p => unk p.2).Pairwise fun a b => ltK a b = true := by
          rw [List.pairwise_map]
          have nd2 := List.pairwise_map.mp nd'
          refine List.Pairwise.imp_of_mem (R := fun p q => W.dataLe false (fun p : EnN => toPy (unk p.2)) p q = true ∧ unk p.2 ≠ unk q.2) (fun {p q} hp hq hab => ?_) (pw.and nd2)
          have al := c3' _ (rv p (pm.mem_iff.mp hp)).1 _ (rv q (pm.mem_iff.mp hq)).1
          have al2 := c3' _ (rv q (pm.mem_iff.mp hq)).1 _ (rv p (pm.mem_iff.mp hp)).1
          have h1 : (!W.dataLt (toPy (unk q.2)) (toPy (unk p.2))) = true := hab.1
          rw [lt_ltK _ _ al2, Bool.not_eq_true'] at h1
          cases h2 : ltK (unk p.2) (unk q.2) with
          | true => rfl
          | false => exact absurd (ltK_any _ _ al h2 h1) hab.2
        have hN : (L'.map fun p => unk p.2) = sortK xs := sortedK_ext pwN (sortK_pw c3') fun d => by
          rw [mem_sortK, (pm.map _).mem_iff]
          constructor
          · intro hd
            obtain ⟨p, hp, rfl⟩ := List.mem_map.mp hd
            exact (rv p hp).1
          · exact fun hd => hx d hd
        have dl' : Dl X.K S (upd H a0 (SetNO X.prog X.w a0 L)) h (.lst (sortK xs)) Q := fun S' w' H' x' r' rv' => dl S' w' H' (xn.trans x') r' rv'
        have q := rvs L' fun p hp => pm.mem_iff.mp hp
        rw [hN] at q
        exact dl'.lst rn q p' hp'
    · cases hz
theorem sstA_ok {a : Vv} {v : V} {x z : D} {Q : VK} (r : RelH X.K S H h) (ra : RW X.K S H a v) (ea : rdV h a = some x) (hz : sstA x = some z) (dl : Dl X.K S H h z Q) :
    (fun xs H Q => (rSetOfT X.K X.prog X.w xs H Q ∨ rSetOfI X.K X.w xs H Q) ∨ rSetOfN X.K X.prog X.w xs H Q) [v] H fun v2 H2 => (fun xs H Q => (rSortedT X.K X.prog X.w xs H Q ∨ rSortedI X.w xs H Q) ∨ rSortedN X.K X.prog X.w xs H Q) [v2] H2 Q := by
  unfold sstA at hz
  split at hz
  · rename_i z' e
    cases hz
    refine .inl (.inl ?_)
    obtain ⟨l, ks, h1, h2, h3, h4, h5⟩ := sst_ok r ra ea e dl
    exact ⟨l, ks, h1, h2, h3, h4, fun a L p q s => .inl (.inl (h5 a L p q s))⟩
  · split at hz
    · rename_i z' e
      cases hz
      refine .inl (.inr ?_)
      obtain ⟨l, ns, h1, h2, h3, h5⟩ := sstI_ok r ra ea e dl
      exact ⟨l, ns, h1, h2, h3, fun a n p q => .inl (.inr (h5 a n p q))⟩
    · refine .inr ?_
      obtain ⟨l, ks, Dk, h1, h2, h3, h4, h5, h6⟩ := sstN_ok r ra ea hz dl
      exact ⟨l, ks, Dk, h1, h2, h3, h4, h5, fun a L p q s t => .inr (h6 a L p q s t)⟩
def rLenI (w : World) : List V → Hp → VK → Prop := fun vs H Q => ∃ (a : Addr) (F : Int → Bool) (n : Nat), vs = [V.ref a] ∧ H a = some (SetIO w a F n) ∧ n ≤ 4000 ∧ Q (.int (n : Nat)) H
theorem cr_lenI : CallR X (.builtin "len") (rLenI X.w) := by
  intro pins s σ H vs us Q I r h
  obtain ⟨a, F, n, rfl, ha, hn, q⟩ := h
  have R : SetR X.w s.heap a F n := (I.hok a _ ha).1
  obtain ⟨o, es, ep, t, ho, hex, hd, _, _, _, _, hf, he, _, _⟩ := R
  rw [Vals.ref1 r]
  refine call_len_set ho hex hd hf (by omega) ⟨.int (n : Nat), H, I.tok _, ?_, q⟩
  exact ⟨_, by rw [he]⟩
theorem once_mem {x : D} : ∀ {l : List D}, x ∈ onceK l ↔ x ∈ l
  | [] => Iff.rfl
  | y :: r => by
    rw [onceK]
    cases h : r.any (D.same y) with
    | false =>
      show x ∈ y :: onceK r ↔ _
      rw [List.mem_cons, once_mem, List.mem_cons]
    | true =>
      show x ∈ onceK r ↔ _
      rw [once_mem, List.mem_cons]
      obtain ⟨z, hz, e⟩ := List.any_eq_true.mp h
      have := D.same_eq e
      subst this
      exact ⟨.inr, fun h => h.elim (fun e => by rw [e]; exact hz) id⟩
theorem once_nd : ∀ l : List D, (onceK l).Nodup
  | [] => .nil
  | y :: r => by
    rw [onceK]
    cases h : r.any (D.same y) with
    | true => exact once_nd r
    | false =>
      refine List.nodup_cons.mpr ⟨fun z => ?_, once_nd r⟩
      have := List.any_eq_false.mp h y (once_mem.mp z)
      exact this (D.same_self y)
theorem lns_ok {a : Vv} {v : V} {x z : D} {Q : VK} (r : RelH X.K S H h) (ra : RW X.K S H a v) (ea : rdV h a = some x) (hz : lnsD x = some z) (dl : Dl X.K S H h z Q) :
    (fun xs H Q => rSetOfI X.K X.w xs H Q ∨ rSetOfN X.K X.prog X.w xs H Q) [v] H fun v2 H2 => (fun xs H Q => rLenI X.w xs H Q ∨ rLenN X.K X.prog X.w xs H Q) [v2] H2 Q := by
  obtain ⟨xs, ex, hz⟩ := Option.bind_eq_some_iff.mp hz
  unfold lnsL at hz
  · skip
    split at hz
    · rename_i ns hns
      split at hz
      · rename_i hc
        cases hz
        obtain ⟨p, vs, rfl, t, q⟩ := seq_at r ra ea ex
        have hw := q.ints hns
        subst hw
        refine .inl ⟨p, ns, rfl, t, Nat.le_of_ble_eq_true hc, fun a0 n ha0 hm => .inl ?_⟩
        obtain ⟨ms, m1, m2, m3⟩ := hm
        have e : ms.Perm (sortJ ns) := (List.perm_ext_iff_of_nodup m1 ((sortJ_pw ns).imp fun h => Int.ne_of_lt h)).mpr fun k => by rw [m3, mem_sortJ]
        have en : n = (sortJ ns).length := by rw [← m2, e.length_eq]
        clear m2
        subst en
        have xn : Ext S H S (upd H a0 (SetIO X.w a0 (fun j => decide (j ∈ ns)) (sortJ ns).length)) := ext_new ha0
        have rn : RelH X.K S (upd H a0 (SetIO X.w a0 (fun j => decide (j ∈ ns)) (sortJ ns).length)) h := r.new ha0
        have dl' : Dl X.K S (upd H a0 (SetIO X.w a0 (fun j => decide (j ∈ ns)) (sortJ ns).length)) h (.int ((sortJ ns).length : Nat)) Q := fun S' w' H' x' r' rv' => dl S' w' H' (xn.trans x') r' rv'
        have ln : (sortJ ns).length ≤ ns.length := by
          have := nodup_len (sortJ ns) ns ((sortJ_pw ns).imp fun h => Int.ne_of_lt h) fun k hk => mem_sortJ.mp hk
          exact this
        have := Nat.le_of_ble_eq_true hc
        exact ⟨a0, _, (sortJ ns).length, rfl, upd_same, by omega, dl'.int rn⟩
      · cases hz
    · split at hz
      · rename_i hc
        cases hz
        rw [Bool.and_eq_true] at hc
        have c2 : ∀ x ∈ xs, isTup x = true ∧ D.keyD 8 x = true := fun x hx => by
          have := List.all_eq_true.mp hc.2 x hx
          rwa [Bool.and_eq_true] at this
        refine .inr (setN_ok (r2 := fun vs H2 => rLenI X.w vs H2 Q ∨ rLenN X.K X.prog X.w vs H2 Q) (D0 := xs) r ra ea ex c2 (fun x hx => hx) (Nat.le_of_ble_eq_true hc.1) fun a0 L xn rn eo rv hx nd us => .inr ⟨a0, L, rfl, us, eo, ?_⟩)
        have pe : (L.map fun p => unk p.2).Perm (onceK xs) := (List.perm_ext_iff_of_nodup nd (once_nd xs)).mpr fun d => by
          rw [once_mem]
          constructor
          · intro hd
            obtain ⟨p, hp, rfl⟩ := List.mem_map.mp hd
            exact (rv p hp).1
          · exact fun hd => hx d hd
        have el : L.length = (onceK xs).length := by rw [← pe.length_eq, List.length_map]
        have dl' : Dl X.K S (upd H a0 (SetNO X.prog X.w a0 L)) h (.int ((onceK xs).length : Nat)) Q := fun S' w' H' x' r' rv' => dl S' w' H' (xn.trans x') r' rv'
        rw [el]
        exact dl'.int rn
      · cases hz
end
end Bk
namespace Bk
open PySem PySem.Spec PyProof.Rows L2
variable [MF] [PWc]
section
variable (K : PySem.W.Frag) (mg : Str → Option Value) (G : Nm) (gc : Gc) (cl : Cl) (E : XK)
def tI (it : Ix) : TI := fun σ H R => ∃ S e h, RelH K S H h ∧ RelE K S H e σ ∧ (evI gc cl it e h).All (Po K mg G S H h (fun S' H' xs => ∀ J, ItOk K S' H' (hqI it h) J xs → R J H') E)
end
section
variable {K : PySem.W.Frag} {mg : Str → Option Value} {G : Nm} {gc : Gc} {cl : Cl} {E : XK} {S : Sg} {H : Hp} {h : Hq} {e : En} {σ : L2.St} {β : Type} {q : Sg → Hp → β → Prop}
theorem stepI {x : Ix} {f : List D → M β} {R : It → Hp → Prop} (r : RelH K S H h) (re : RelE K S H e σ) (hb : (bnd (evI gc cl x e h) f).All (Po K mg G S H h q E))
    (k : ∀ a S1 H1 J, Ext S H S1 H1 → RelH K S1 H1 h → RelE K S1 H1 e σ → ItOk K S1 H1 (hqI x h) J a → (f a).All (Po K mg G S1 H1 h q E) → R J H1) : tI K mg G gc cl E x σ H R := by
  refine ⟨S, e, h, r, re, F.All.imp (fun y p => ?_) (bnd_all hb)⟩
  cases y with
  | ok a => exact fun S' H' x' r' J it => k a S' H' J x' r' (re.ext r x') it (F.All.imp (fun z pz => pz.up x' z) p)
  | ex c => exact p
theorem noEx_all {α : Type} {m : M α} {P : Rx α → Prop} (hb : (noEx m).All P) : m.All fun r => match r with
    | .ok a => P (.ok a)
    | .ex _ => False := by
  refine F.All.imp (fun r p => ?_) (F.All_bind.mp hb)
  cases r with
  | ok a => exact p
  | ex c => exact p.elim
end
section
variable {k : Nat} {G : Nm} {gc : Gc} {cl : Cl} {N : List Str}
theorem pi_any {X : Cx} {tg e : PySem.Expr} {te : TE} (he : PE X e te) :
    PI X tg e (fun σ H R => te σ H fun v H1 => (∃ a, v = .ref a ∧ (∃ xs, SqL X.K H1 a xs) ∧ R (Itl X.K a) H1) ∨ (∃ a, v = .ref a ∧ (∃ xs, SqT X.K H1 a xs) ∧ R (Itt X.K a) H1) ∨ ∃ x, v = .str x ∧ R (Its x) H1) := by
  refine ⟨fun pins s σ H R I hw => ?_⟩
  refine thn (he.run pins s σ H _ I hw) fun u s1 ⟨x, H1, I1, r1, q1⟩ => ?_
  rcases q1 with ⟨a, rfl, ⟨xs, hq⟩, q⟩ | ⟨a, rfl, ⟨xs, hq⟩, q⟩ | ⟨z, rfl, q⟩
  · obtain rfl : u = Value.ref a := r1
    obtain ⟨its, rv, p, hz⟩ := I1.list hq
    refine wpAny_pyIter_list p.isList ⟨s1.heap.objs.size, [s1.heap.objs.size], _, _, H1, rfl, I1.kept (t' := s1.toks) fun b o e => Heap.get?_push_of_some _ e, turn_list a _, ⟨_, Heap.get?_push_size _ rfl, rfl, rfl⟩, fun b hb => ?_, q⟩
    obtain rfl : b = s1.heap.objs.size := by simpa using hb
    exact I1.fpOk (Nat.le_refl _) (I1.hok.fresh (Nat.le_refl _))
  · obtain rfl : u = Value.ref a := r1
    obtain ⟨its, rv, p, hz⟩ := I1.tuple hq
    refine wpAny_pyIter_tuple (show s1.heap.IsTuple a its.toArray from p) ⟨s1.heap.objs.size, [s1.heap.objs.size], _, _, H1, rfl, I1.kept (t' := s1.toks) fun b o e => Heap.get?_push_of_some _ e, turn_tuple a _, ⟨_, Heap.get?_push_size _ rfl, rfl, rfl⟩, fun b hb => ?_, q⟩
    obtain rfl : b = s1.heap.objs.size := by simpa using hb
    exact I1.fpOk (Nat.le_refl _) (I1.hok.fresh (Nat.le_refl _))
  · obtain ⟨t, rfl⟩ := r1
    cases ha : z.cps.all (· < 128)
    · exact wpAny_pyIter_wide ha (pi_one (tk := s1.toks) I1 _ (turn_str _ z t "str_iterator" (.inr rfl)) ⟨_, Heap.get?_push_size _ rfl, rfl, rfl⟩ q)
    · exact wpAny_pyIter_ascii ha (pi_one (tk := s1.toks) I1 _ (turn_str _ z t "str_ascii_iterator" (.inl rfl)) ⟨_, Heap.get?_push_size _ rfl, rfl, rfl⟩ q)
theorem kw_some {env : Env} {pos : Pos} : ∀ {kws : List Keyword}, (∀ x ∈ kws, x.arg.isSome = true) → (backToKw pos (keywordEach kws env)).all (·.1.isSome) = true ∧ (backToKw pos (keywordEach kws env)).any (·.1.isNone) = false ∧ ((backToKw pos (keywordEach kws env)).filterMap (·.1)).map some = kws.map (·.arg)
  | [], _ => ⟨rfl, rfl, rfl⟩
  | ⟨nm, v, p⟩ :: kws, h => by
    obtain ⟨h1, h2, h3⟩ := kw_some (env := env) (pos := pos) (kws := kws) fun x hx => h x (List.mem_cons_of_mem _ hx)
    have h0 : nm.isSome = true := h ⟨nm, v, p⟩ List.mem_cons_self
    cases nm with
    | none => cases h0
    | some y =>
      refine ⟨?_, ?_, ?_⟩
      · show (true && (backToKw pos (keywordEach kws env)).all (·.1.isSome)) = true
        rw [h1]; rfl
      · show (false || (backToKw pos (keywordEach kws env)).any (·.1.isNone)) = false
        rw [h2]; rfl
      · show some y :: ((backToKw pos (keywordEach kws env)).filterMap (·.1)).map some = some y :: kws.map (·.arg)
        rw [h3]
theorem map_some_inj {α : Type} : ∀ {xs ys : List α}, xs.map some = ys.map some → xs = ys
  | [], [], _ => rfl
  | [], _ :: _, h => by simp at h
  | _ :: _, [], h => by simp at h
  | x :: xs, y :: ys, h => by
    simp only [List.map_cons, List.cons.injEq, Option.some.injEq] at h
    rw [h.1, map_some_inj h.2]
def tCallKS (n : Nat) (sp : Sp) (E : XK) (t tk : TA) : TE := fun σ H Q => t σ H fun vs H1 => vs.length = n ∧ tk σ H1 fun zs H2 => sp (vs ++ zs) H2 Q E
section
variable {X : Cx} {CX : CXT} {f : Addr} {fd : FuncData} {ps : List Str} {sp : Sp} {E : XK} {x : Str} {p pos : Pos} {es : List PySem.Expr} {kws : List Keyword} {t tk : TA}
theorem run_kws (F : FnOk X.prog X.w X.K X.mg X.base CX k f fd ps sp) (hr : Room k X.A)
    (hb : ∀ (s : Shared) (us ws : List Value), X.K.In s.heap → (us ++ ws).length = ps.length → BindsTo s fd ⟨us, (ps.drop us.length).zip ws⟩ (ps.zip (us ++ ws))) (hx : Passes CX X E)
    {pins : List (Addr × Obj)} {σ : L2.St} {Q : VK} {us ws : List Value} {vs zs : List V} {s2 : Shared} {H2 : Hp} {n : Nat} (I2 : Inv X pins σ H2 s2) (r : Vals vs us) (rz : Vals zs ws) (el : vs.length = n) (q : sp (vs ++ zs) H2 Q E) :
    wpAny (model X.prog X.w) X.A (call (.ref f) us ((ps.drop n).zip ws)) (EP X pins σ Q) X.xe s2 := by
  have r2 := r.append rz
  have hl2 : (us ++ ws).length = ps.length := by rw [← r2.length]; exact F.len _ _ _ _ q
  have eu : us.length = n := by rw [← r.length]; exact el
  have hbi := hb s2 us ws I2.kIn hl2
  rw [eu] at hbi
  refine wpAny_call (codeAny_mono (F.run X.A X.stack s2 H2 ⟨us, (ps.drop n).zip ws⟩ (us ++ ws) (vs ++ zs) Q E hr I2.env0 hbi r2 q) fun r s' hq => ?_)
  cases r with
  | error e => exact hx pins σ H2 s2 e s' I2 hq
  | ok fl =>
    cases fl with
    | ret u => exact I2.after hq
    | next => exact hq.elim
    | brk => exact hq.elim
    | cont => exact hq.elim
theorem pe_callKS {e : PySem.Expr} (F : FnOk X.prog X.w X.K X.mg X.base CX k f fd ps sp) (hr : Room k X.A) (hg : Gl X x) (hm : X.mg x = some (.ref f)) (hk : PySem.W.keepIn X.K (.ref f) = true)
    (hb : ∀ (s : Shared) (us ws : List Value), X.K.In s.heap → (us ++ ws).length = ps.length → BindsTo s fd ⟨us, (ps.drop us.length).zip ws⟩ (ps.zip (us ++ ws))) (hx : Passes CX X E)
    (hst : (e :: es).all notSt = true) (hn : kws.map (·.arg) = (ps.drop (e :: es).length).map some) (hdb : (x == ("__debug__" : Str)) = false) (ha : PA X (e :: es) t) (hkw : PK X kws tk) :
    PE X (.Call (.Name x p) (e :: es) kws pos) (tCallKS (e :: es).length sp E t tk) := by
  have hso : ∀ y ∈ kws, y.arg.isSome = true := fun y hy => by
    have : y.arg ∈ kws.map (·.arg) := List.mem_map_of_mem hy
    rw [hn] at this
    obtain ⟨z, _, e⟩ := List.mem_map.mp this
    rw [← e]; rfl
  refine ⟨fun pins s σ H Q I h => ?_⟩
  obtain ⟨h1, h2, h3⟩ := kw_some (env := X.env) (pos := pos) hso
  have hks : (backToKw pos (keywordEach kws X.env)).filterMap (·.1) = ps.drop (e :: es).length := map_some_inj (h3.trans hn)
  refine wpAny_Call_Name_kw (ld_glob I hg hm ?_ hdb)
  have hst2 := hst
  rw [List.all_cons, Bool.and_eq_true] at hst2
  refine PySem.W.callWith_KW (h₀ := X.base) I.ok.mod.kin hk h1 (thn (ha.run pos pins s σ H _ I h) fun us s1 ⟨vs, H1, I1, r, el, q⟩ => ?_) ?_ (star_cons hst2.1)
  · refine thn (hkw.run pos pins s1 σ H1 _ I1 q) fun ws s2 ⟨zs, H2, I2, rz, q2⟩ => ⟨I2.kIn, ?_⟩
    rw [hks]
    exact run_kws F hr hb hx I2 r rz el q2
  · rw [star_any hst, h2]; rfl
theorem pe_callKS0 (F : FnOk X.prog X.w X.K X.mg X.base CX k f fd ps sp) (hr : Room k X.A) (hg : Gl X x) (hm : X.mg x = some (.ref f)) (hk : PySem.W.keepIn X.K (.ref f) = true)
    (hb : ∀ (s : Shared) (us ws : List Value), X.K.In s.heap → (us ++ ws).length = ps.length → BindsTo s fd ⟨us, (ps.drop us.length).zip ws⟩ (ps.zip (us ++ ws))) (hx : Passes CX X E)
    (hn : kws.map (·.arg) = ps.map some) (hdb : (x == ("__debug__" : Str)) = false) (hkw : PK X kws tk) :
    PE X (.Call (.Name x p) [] kws pos) (fun σ H Q => tk σ H fun zs H2 => sp zs H2 Q E) := by
  have hso : ∀ y ∈ kws, y.arg.isSome = true := fun y hy => by
    have : y.arg ∈ kws.map (·.arg) := List.mem_map_of_mem hy
    rw [hn] at this
    obtain ⟨z, _, e⟩ := List.mem_map.mp this
    rw [← e]; rfl
  refine ⟨fun pins s σ H Q I h => ?_⟩
  obtain ⟨h1, h2, h3⟩ := kw_some (env := X.env) (pos := pos) hso
  have hks : (backToKw pos (keywordEach kws X.env)).filterMap (·.1) = ps.drop 0 := map_some_inj (h3.trans hn)
  refine wpAny_Call_Name_kw (ld_glob I hg hm ?_ hdb)
  refine PySem.W.callWith_KW0 (h₀ := X.base) I.ok.mod.kin hk h1 (thn (hkw.run pos pins s σ H _ I h) fun ws s2 ⟨zs, H2, I2, rz, q2⟩ => ⟨I2.kIn, ?_⟩) (by rw [h2]; rfl)
  rw [hks]
  exact run_kws (us := []) (vs := []) F hr hb hx I2 .nil rz rfl q2
end
theorem ownN_map (N : List Str) : ∀ own : List Nat, (ownN N own).map (·.2) = own
  | [] => rfl
  | i :: r => by
    show i :: (ownN N r).map (·.2) = i :: r
    rw [ownN_map N r]
theorem inv_cmp {sc : Scope} {o : Cop} {a b : Ex} {e : PySem.Expr} (h : mE G N (.cmp o a b) sc e = true) : ∃ l op r p, e = .Compare l [op] [r] p ∧ mCop o op = true ∧ notSet r = true ∧ mE G N a sc l = true ∧ mE G N b sc r = true := by
  unfold mE at h
  split at h
  · simp only [Bool.and_eq_true] at h
    exact ⟨_, _, _, _, rfl, h.1.1.1, h.1.1.2, h.1.2, h.2⟩
  · cases h
theorem inv_chn {sc : Scope} {o p : Cop} {a b c : Ex} {e : PySem.Expr} (h : mE G N (.chn o p a b c) sc e = true) : ∃ l op op' r r' p', e = .Compare l [op, op'] [r, r'] p' ∧ mCop o op = true ∧ mCop p op' = true ∧ notSet r' = true ∧ mE G N a sc l = true ∧ mE G N b sc r = true ∧ mE G N c sc r' = true := by
  unfold mE at h
  split at h
  · simp only [Bool.and_eq_true] at h
    exact ⟨_, _, _, _, _, _, rfl, h.1.1.1.1.1.1, h.1.1.1.1.1.2, h.1.1.1.2, h.1.1.2, h.1.2, h.2⟩
  · cases h
theorem wipe_wipe (σ : L2.St) (vs : List Nat) : wipe (wipe σ vs) vs = wipe σ vs := by
  refine List.ext_getElem? fun j => ?_
  rw [wipe_get, wipe_get]
  by_cases hj : j ∈ vs
  · rw [if_pos hj, if_pos hj, Option.map_map]; rfl
  · rw [if_neg hj, if_neg hj]
section
variable {K : PySem.W.Frag} {mg : Str → Option Value} {E : XK} {S : Sg} {H : Hp} {h : Hq} {e : En} {σ : L2.St} {β : Type} {q : Sg → Hp → β → Prop}
theorem opC_ok {o : Cop} {a b : Vv} {v w : V} {Q : VK} {g : Vv → M β} (r : RelH K S H h) (ra : RW K S H a v) (rb : RW K S H b w)
    (hb : (bnd (op2 h (fun x y => (cmpD o x y).map .bl) a b) g).All (Po K mg G S H h q E))
    (k : ∀ k S' H', Ext S H S' H' → RelH K S' H' h → (g (.d (.bl k))).All (Po K mg G S' H' h q E) → Q (.bl k) H') : rCmp K (cmpD o) v w H Q := by
  have hb3 := bnd_all hb
  unfold op2 at hb3
  split at hb3
  · rename_i p' q' ep eq
    simp only [] at hb3
    cases hc : cmpD o p' q' with
    | none => rw [hc] at hb3; exact hb3.elim
    | some kk =>
      rw [hc] at hb3
      refine ⟨S, h, a, b, p', q', .bl kk, r, ra, rb, ep, eq, by show Option.map D.bl (cmpD o p' q') = _; rw [hc]; rfl, fun S' v' H' x' r' rv => ?_⟩
      obtain rfl : v' = .bl kk := by unfold RV at rv; exact rv
      exact k kk S' H' x' r' (F.All.imp (fun z pz => pz.up x' z) hb3)
  · exact hb3.elim
theorem chn_ok {o p : Cop} {a b c : Ex} {Q : VK} (r : RelH K S H h) (re : RelE K S H e σ)
    (hb : (bnd (evE gc cl a e h) fun v => bnd (evE gc cl b e h) fun w => bnd (op2 h (fun x y => (cmpD o x y).map .bl) v w) fun k => match k with
      | .d (.bl true) => bnd (evE gc cl c e h) fun u => op2 h (fun x y => (cmpD p x y).map .bl) w u
      | .d (.bl false) => ok (.d (.bl false))
      | _ => .stk).All (Po K mg G S H h (qV K Q) E)) :
    tChain (rCmp K (cmpD o)) (rCmp K (cmpD p)) (tE K mg G gc cl E a) (tE K mg G gc cl E b) (tE K mg G gc cl E c) σ H Q := by
  refine stepE r re hb fun a S1 H1 v x1 r1 re1 ra hb1 => stepE r1 re1 hb1 fun b S2 H2 w x2 r2 re2 rb hb2 => ?_
  refine opC_ok r2 (RW.ext r1 x2 a v ra) rb hb2 fun k S' H' x' r' hb3 => ⟨k, rfl, ?_⟩
  cases k with
  | true =>
    refine iteT (stepE r' (re2.ext r2 x') hb3 fun c S3 H3 u x3 r3 re3 rc hb4 => ?_)
    exact op2_ok r3 (RW.ext r2 (x'.trans x3) b w rb) rc hb4
  | false => exact iteF (hb3 S' H' (Ext.refl _ _) r' _ (by unfold RW RV; rfl))
theorem cmpT_ok {o : Cop} {a b : Ex} {Q : Bool → Hp → Prop} (r : RelH K S H h) (re : RelE K S H e σ)
    (hb : (bnd (bnd (evE gc cl a e h) fun v => bnd (evE gc cl b e h) fun w => op2 h (fun x y => (cmpD o x y).map .bl) v w) fun v => match rdV h v with
      | some d => lf (truD d)
      | none => .stk).All (Po K mg G S H h (qB Q) E)) :
    tTest (tOp (rCmp K (cmpD o)) (tE K mg G gc cl E a) (tE K mg G gc cl E b)) σ H Q := by
  rw [bnd_assoc] at hb
  refine stepE r re hb fun a S1 H1 v x1 r1 re1 ra hb1 => ?_
  rw [bnd_assoc] at hb1
  refine stepE r1 re1 hb1 fun b S2 H2 w x2 r2 re2 rb hb2 => ?_
  exact opC_ok r2 (RW.ext r1 x2 a v ra) rb hb2 fun k S' H' x' r' hb3 => ⟨k, rfl, hb3 S' H' (Ext.refl _ _) r'⟩
theorem chnT_ok {o p : Cop} {a b c : Ex} {Q : Bool → Hp → Prop} (r : RelH K S H h) (re : RelE K S H e σ)
    (hb : (bnd (bnd (evE gc cl a e h) fun v => bnd (evE gc cl b e h) fun w => bnd (op2 h (fun x y => (cmpD o x y).map .bl) v w) fun k => match k with
      | .d (.bl true) => bnd (evE gc cl c e h) fun u => op2 h (fun x y => (cmpD p x y).map .bl) w u
      | .d (.bl false) => ok (.d (.bl false))
      | _ => .stk) fun v => match rdV h v with
      | some d => lf (truD d)
      | none => .stk).All (Po K mg G S H h (qB Q) E)) :
    tTest (tChain (rCmp K (cmpD o)) (rCmp K (cmpD p)) (tE K mg G gc cl E a) (tE K mg G gc cl E b) (tE K mg G gc cl E c)) σ H Q := by
  rw [bnd_assoc] at hb
  refine stepE r re hb fun a S1 H1 v x1 r1 re1 ra hb1 => ?_
  rw [bnd_assoc] at hb1
  refine stepE r1 re1 hb1 fun b S2 H2 w x2 r2 re2 rb hb2 => ?_
  rw [bnd_assoc] at hb2
  refine opC_ok r2 (RW.ext r1 x2 a v ra) rb hb2 fun k S' H' x' r' hb3 => ⟨k, rfl, ?_⟩
  cases k with
  | true =>
    simp only [] at hb3
    rw [bnd_assoc] at hb3
    refine iteT (stepE r' (re2.ext r2 x') hb3 fun c S3 H3 u x3 r3 re3 rc hb4 => ?_)
    exact opC_ok r3 (RW.ext r2 (x'.trans x3) b w rb) rc hb4 fun k S4 H4 x4 r4 hb5 => ⟨k, rfl, hb5 S4 H4 (Ext.refl _ _) r4⟩
  | false => exact iteF ⟨false, rfl, hb3 S' H' (Ext.refl _ _) r'⟩
theorem seq_ok {d : D} {v : V} {R : It → Hp → Prop} {hq : Hq → Prop} (r : RelH K S H h) (ra : RW K S H (.d d) v) (hb : (lf (seqD d)).All (Po K mg G S H h (fun S' H' xs => ∀ J, ItOk K S' H' hq J xs → R J H') E)) :
    (∃ a, v = .ref a ∧ (∃ xs, SqL K H a xs) ∧ R (Itl K a) H) ∨ (∃ a, v = .ref a ∧ (∃ xs, SqT K H a xs) ∧ R (Itt K a) H) ∨ ∃ x, v = .str x ∧ R (Its x) H := by
  have ra : RV K S H d v := ra
  unfold seqD at hb
  split at hb
  · unfold RV at ra
    obtain ⟨a, vs, rfl, t, q⟩ := ra
    exact .inr (.inl ⟨a, rfl, ⟨vs, t⟩, hb S H (Ext.refl S H) r _ (it_tup r t q)⟩)
  · unfold RV at ra
    obtain ⟨a, vs, rfl, t, f, q⟩ := ra
    exact .inl ⟨a, rfl, ⟨vs, SqL.of t⟩, hb S H (Ext.refl S H) r _ (it_lst r t f q)⟩
  · split at hb
    · unfold RV at ra
      exact .inr (.inr ⟨_, ra, hb S H (Ext.refl S H) r _ it_str⟩)
    · exact hb.elim
  · exact hb.elim
theorem rng_ok {i j : Int} {P : Rx (List D) → Prop} (hb : (lf (rngD i j)).All P) : ((-(10000000 : Int) ≤ i ∧ i ≤ 10000000) ∧ (-(10000000 : Int) ≤ j ∧ j ≤ 10000000)) ∧ P (.ok ((List.range (j - i).toNat).map fun (n : Nat) => .int (i + (n : Int)))) := by
  unfold rngD at hb
  split at hb
  · exact ⟨‹_›, hb⟩
  · exact hb.elim
theorem rngN_ok {i j : Int} {P : Rx (List D) → Prop} (hb : (lf (rngN i j)).All P) : ((-(10000000 : Int) ≤ i ∧ i ≤ 10000000) ∧ (-(10000000 : Int) ≤ j ∧ j ≤ 10000000)) ∧ P (.ok ((List.range (i - j).toNat).map fun (n : Nat) => .int (i - (n : Int)))) := by
  unfold rngN at hb
  split at hb
  · exact ⟨‹_›, hb⟩
  · exact hb.elim
end
section
variable {X : Cx} {sc : Scope} {top : Bool} {E : XK}
theorem pw_of {op : BoolOp} {vs : List PySem.Expr} {p : Pos} {t : TT} (h : PT X (.BoolOp op vs p) t) : PW X (.BoolOp op vs p) t := ⟨fun wh pins s σ H Q I q => h.run pins s σ H Q I q⟩
theorem andT_ok {a b : Tx} {l r : PySem.Expr} {rest : List PySem.Expr} {p : Pos} (ha : PT X l (tT X.K X.mg G gc cl E a)) (hb : PW X (.BoolOp .And (r :: rest) p) (tT X.K X.mg G gc cl E b)) : PW X (.BoolOp .And (l :: r :: rest) p) (tT X.K X.mg G gc cl E (.and a b)) := by
  refine PW.imp (pw_and ha hb) fun σ H Q q => ?_
  obtain ⟨S, e, h, r, re, hb⟩ := q
  unfold evT at hb
  refine stepT r re hb fun k S1 H1 x1 r1 re1 hb1 => ?_
  cases k with
  | true => exact iteT ⟨S1, e, h, r1, re1, hb1⟩
  | false => exact iteF (hb1 S1 H1 (Ext.refl _ _) r1)
theorem orT_ok {a b : Tx} {l r : PySem.Expr} {rest : List PySem.Expr} {p : Pos} (ha : PT X l (tT X.K X.mg G gc cl E a)) (hb : PW X (.BoolOp .Or (r :: rest) p) (tT X.K X.mg G gc cl E b)) : PW X (.BoolOp .Or (l :: r :: rest) p) (tT X.K X.mg G gc cl E (.or a b)) := by
  refine PW.imp (pw_or ha hb) fun σ H Q q => ?_
  obtain ⟨S, e, h, r, re, hb⟩ := q
  unfold evT at hb
  refine stepT r re hb fun k S1 H1 x1 r1 re1 hb1 => ?_
  cases k with
  | true => exact iteT (hb1 S1 H1 (Ext.refl _ _) r1)
  | false => exact iteF ⟨S1, e, h, r1, re1, hb1⟩
theorem ity_pe (C : Cok X N sc top E k G gc cl) {t : Ity} {p : Pos} (h : glb sc (Str.ofString (ityS t)) = true) : PE X (.Name (Str.ofString (ityS t)) p) (tC (.ty (ityS t))) := by
  have hg := C.gl h
  cases t with
  | int => exact pe_bltn hg (C.free (by decide)) PyProof.Rows.boot_int rfl (by decide) (by decide)
  | bool => exact pe_bltn hg (C.free (by decide)) PyProof.Rows.boot_bool rfl (by decide) (by decide)
  | str => exact pe_bltn hg (C.free (by decide)) PyProof.Rows.boot_str rfl (by decide) (by decide)
  | tuple => exact pe_bltn hg (C.free (by decide)) PyProof.Rows.boot_tuple rfl (by decide) (by decide)
  | list => exact pe_bltn hg (C.free (by decide)) PyProof.Rows.boot_list rfl (by decide) (by decide)
theorem blt_ok (C : Cok X N sc top E k G gc cl) {b : Blt} {x : Str} {y : PySem.Expr} {xs : List PySem.Expr} {p pp : Pos} {t : TA} (h1 : bltS b = x) (h2 : glb sc x = true) (hst : notSt y = true ∧ xs.all notSt = true) (pa : PA X (y :: xs) t) :
    PE X (.Call (.Name x p) (y :: xs) [] pp) (tCB (rBl X.K (bltD b)) t) := by
  subst h1
  have hg := C.gl h2
  have s1 := star_cons (es := xs) (env := X.env) hst.1
  have s2 := star_any (pos := pp) (env := X.env) hst.2
  cases b with
  | len => exact pe_callB cR_len hg (C.free (by decide)) boot_len pa (by decide) (by decide) s1 s2
  | min => exact pe_callB (cR_min C.calm (hu_of C.room)) hg (C.free (by decide)) boot_min pa (by decide) (by decide) s1 s2
  | max => exact pe_callB (cR_max C.calm (hu_of C.room)) hg (C.free (by decide)) boot_max pa (by decide) (by decide) s1 s2
  | sum => exact pe_callB (cR_sum C.calm) hg (C.free (by decide)) boot_sum pa (by decide) (by decide) s1 s2
  | all => exact pe_callB (cR_all C.calm) hg (C.free (by decide)) boot_all pa (by decide) (by decide) s1 s2
  | any => exact pe_callB (cR_any C.calm) hg (C.free (by decide)) boot_any pa (by decide) (by decide) s1 s2
  | tuple => exact pe_callTy cR_tuple hg (C.free (by decide)) PyProof.Rows.boot_tuple pa (by decide) (by decide) s1 s2
  | list => exact pe_callTy cR_list hg (C.free (by decide)) PyProof.Rows.boot_list pa (by decide) (by decide) s1 s2
  | abs => exact pe_callB cR_abs hg (C.free (by decide)) boot_abs pa (by decide) (by decide) s1 s2
  | str => exact pe_callTy (cR_str) hg (C.free (by decide)) PyProof.Rows.boot_str pa (by decide) (by decide) s1 s2
  | int => exact pe_callTy (cR_int) hg (C.free (by decide)) PyProof.Rows.boot_int pa (by decide) (by decide) s1 s2
end
theorem sTv {X : Cx} {sc : Scope} {E : XK} {x : Ex} {e : PySem.Expr} (hc : isCm x = false) (h : mT G N (.val x) sc e = true) (p : mE G N x sc e = true → PE X e (tE X.K X.mg G gc cl E x)) : PT X e (tT X.K X.mg G gc cl E (.val x)) := by
  unfold mT at h
  rw [Bool.and_eq_true, hc, Bool.false_or] at h
  refine PT.imp (pt_truth (p h.2) (isTrue_pl h.1)) fun σ H Q q => ?_
  obtain ⟨S, e, h, r, re, hb⟩ := q
  unfold evT at hb
  refine stepE r re hb fun a S1 H1 v x1 r1 re1 ra hb1 => ?_
  split at hb1
  · rename_i p ep
    cases ht : truD p with
    | none => rw [ht] at hb1; exact hb1.elim
    | some b =>
      rw [ht] at hb1
      exact ⟨b, ra.tru r1 ep ht, hb1 S1 H1 (Ext.refl S1 H1) r1⟩
  · exact hb1.elim
theorem lc1_imp {K : PySem.W.Frag} {mg : Str → Option Value} {E : XK} {elt : Ex} {tg : Tg} {it : Ix} {own : List Nat} {σ : L2.St} {H : Hp} {Q : VK} (h2 : ((tgS tg).all fun i => decide (i ∈ own)) = true) (q : tE K mg G gc cl E (.cmp1 elt tg it own) σ H Q) :
    tLc (tI K mg G gc cl E it) (gT K tg) tYes (tE K mg G gc cl (fun _ _ _ => False) elt) own σ H Q := by
  obtain ⟨S, e, h, r, re, hb⟩ := q
  unfold evE at hb
  refine stepI r re hb fun xs S1 H1 J x1 r1 re1 it1 hb1 D0 n0 => ?_
  split at hb1
  · rename_i hle
    have hb2 := noEx_all (bnd_all hb1)
    refine comp_ok r1 re1 ⟨fun i S2 H2 h2 eq => it1.go i S2 H2 h2 (fun _ => eq), fun S2 H2 h2 eq => it1.stop S2 H2 h2 (fun _ => eq), fun i S2 H2 h2 x H' eq => it1.yld i S2 H2 h2 x H' (fun _ => eq)⟩ ?_ n0 (Nat.le_of_ble_eq_true hle) (F.All.imp (fun y p => ?_) hb2)
    · intro S2 H2 x d Ra Rn r2 re2 rv hf
      simp only [] at hf
      split at hf
      · rename_i e1 ea
        refine ⟨S2, wip e own, h, d, e1, r2, re2.wip own, rv, ea, fun σ2 re3 df => ⟨(df own (fun i hi => of_decide_eq_true (List.all_eq_true.mp h2 i hi))).trans (wipe_wipe σ own), ?_⟩⟩
        refine iteT (B := Rn H2) ⟨S2, e1, h, r2, re3, F.All.imp (fun y p => ?_) (bnd_all hf)⟩
        cases y with
        | ex c => exact p.elim
        | ok v =>
          cases v with
          | d z => exact fun S' H' x' r' w rw' => p S' H' w x' r' rw'
          | r n => exact p.elim
      · exact hf.elim
    · cases y with
      | ok ys => exact fun S' H' x' r' v rv => p S' H' x' r' v rv
      | ex c => exact p
  · exact hb1.elim
theorem lcc_imp {K : PySem.W.Frag} {mg : Str → Option Value} {E : XK} {elt : Ex} {tg : Tg} {it : Ix} {c : Tx} {own : List Nat} {σ : L2.St} {H : Hp} {Q : VK} (h2 : ((tgS tg).all fun i => decide (i ∈ own)) = true) (q : tE K mg G gc cl E (.cmpc elt tg it c own) σ H Q) :
    tLc (tI K mg G gc cl E it) (gT K tg) (tT K mg G gc cl (fun _ _ _ => False) c) (tE K mg G gc cl (fun _ _ _ => False) elt) own σ H Q := by
  obtain ⟨S, e, h, r, re, hb⟩ := q
  unfold evE at hb
  refine stepI r re hb fun xs S1 H1 J x1 r1 re1 it1 hb1 D0 n0 => ?_
  split at hb1
  · rename_i hle
    have hb2 := noEx_all (bnd_all hb1)
    refine comp_ok r1 re1 ⟨fun i S2 H2 h2 eq => it1.go i S2 H2 h2 (fun _ => eq), fun S2 H2 h2 eq => it1.stop S2 H2 h2 (fun _ => eq), fun i S2 H2 h2 x H' eq => it1.yld i S2 H2 h2 x H' (fun _ => eq)⟩ ?_ n0 (Nat.le_of_ble_eq_true hle) (F.All.imp (fun y p => ?_) hb2)
    · intro S2 H2 x d Ra Rn r2 re2 rv hf
      simp only [] at hf
      split at hf
      · rename_i e1 ea
        refine ⟨S2, wip e own, h, d, e1, r2, re2.wip own, rv, ea, fun σ2 re3 df => ⟨(df own (fun i hi => of_decide_eq_true (List.all_eq_true.mp h2 i hi))).trans (wipe_wipe σ own), ?_⟩⟩
        refine ⟨S2, e1, h, r2, re3, F.All.imp (fun y p => ?_) (bnd_all hf)⟩
        cases y with
        | ex c => exact p.elim
        | ok b =>
          intro S3 H3 x3 r3
          cases b with
          | false => exact iteF (A := tE K mg G gc cl (fun _ _ _ => False) elt σ2 H3 Ra) (p S3 H3 x3 r3)
          | true =>
            refine iteT (B := Rn H3) ⟨S3, e1, h, r3, re3.ext r2 x3, F.All.imp (fun y p => ?_) (bnd_all p)⟩
            cases y with
            | ex c => exact p.elim
            | ok v =>
              cases v with
              | d z => exact fun S' H' x' r' w rw' => p S' H' w (x3.trans x') r' rw'
              | r n => exact p.elim
      · exact hf.elim
    · cases y with
      | ok ys => exact fun S' H' x' r' v rv => p S' H' x' r' v rv
      | ex c => exact p
  · exact hb1.elim
mutual
theorem sE0 : ∀ (x : Ex) (G : Nm) (X : Cx) (sc : Scope) (top : Bool) (E : XK) (e : PySem.Expr), Cok X N sc top E k G gc cl → mE G N x sc e = true → PE X e (tE X.K X.mg G gc cl E x)
  | .var i, G, X, sc, top, E, e, C, h => by
    unfold mE at h
    split at h
    · rename_i x pp
      rw [Bool.and_eq_true, Bool.and_eq_true] at h
      obtain ⟨⟨h1, h2⟩, h3⟩ := h
      obtain ⟨d1, d2, _⟩ := nodbg_ok h3
      refine PE.imp (pe_var (i := i) (by rw [C.hN]; exact of_decide_eq_true h1) (by rw [C.hs]; exact vis_ok h2) d1 d2) fun σ H Q q => ?_
      obtain ⟨S, e, h, r, re, hb⟩ := q
      unfold evE at hb
      split at hb
      · rename_i v hv
        have hv' : e[i]? = some (some v) := by
          rw [List.getD_eq_getElem?_getD] at hv
          cases he : e[i]? with
          | none => rw [he] at hv; cases hv
          | some o => rw [he] at hv; simp at hv; rw [hv]
        obtain ⟨w, ew, rw'⟩ := re.sl i v hv'
        exact ⟨w, ew, hb S H (Ext.refl S H) r w rw'⟩
      · exact hb.elim
    · cases h
  | .cst d, G, X, sc, top, E, e, C, h => by
    unfold mE at h
    split at h
    · rename_i c kk pp
      have fin : ∀ {v : V} σ H Q, tE X.K X.mg G gc cl E (.cst d) σ H Q → (∀ K S H, RV K S H d v) → Q v H := fun {v} σ H Q q rv => by
        obtain ⟨S, e, h, r, re, hb⟩ := q
        unfold evE at hb
        exact hb S H (Ext.refl S H) r v (rv X.K S H)
      rcases mC_ok h with ⟨rfl, rfl⟩ | ⟨b, rfl, rfl⟩ | ⟨i, rfl, rfl⟩ | ⟨s, z, rfl, rfl, rfl⟩
      · exact PE.imp pe_non fun σ H Q q => fin σ H Q q fun _ _ _ => by unfold RV; rfl
      · exact PE.imp pe_bl fun σ H Q q => fin σ H Q q fun _ _ _ => by unfold RV; rfl
      · exact PE.imp pe_int fun σ H Q q => fin σ H Q q fun _ _ _ => by unfold RV; rfl
      · exact PE.imp pe_str fun σ H Q q => fin σ H Q q fun _ _ _ => by unfold RV; rfl
    · cases h
  | .glo g, G, X, sc, top, E, e, C, h => by
    unfold mE at h
    split at h
    · rename_i x pp
      simp only [Bool.and_eq_true, decide_eq_true_eq] at h
      obtain ⟨⟨⟨h1, h2⟩, h3⟩, h4⟩ := h
      obtain ⟨a, ga, rv⟩ := C.W.glo g h1
      rw [h2] at ga
      refine PE.imp (pe_glob (v := .ref a) (C.gl h3) ga rfl (nodbg_ok h4).1) fun σ H Q q => ?_
      obtain ⟨S, e, h, r, re, hb⟩ := q
      unfold evE at hb
      exact hb S H (Ext.refl S H) r _ (rv S H)
    · cases h
  | .tup es, G, X, sc, top, E, e, C, h => by
    unfold mE at h
    split at h
    · rename_i xs kk pp
      refine PE.imp (pe_tup (sEs0 es G X sc top E xs C h)) fun σ H Q q => ?_
      obtain ⟨S, e, h, r, re, hb⟩ := q
      unfold evE at hb
      refine stepEs r re hb fun a S1 H1 v x1 r1 re1 ra hb1 hl => ?_
      obtain ⟨z, ez, dl⟩ := lfD_ok hb1
      obtain ⟨ds, ed, rfl⟩ := Option.map_eq_some_iff.mp ez
      unfold dats at ed
      split at ed
      · rename_i hle
        have q1 := dats_ok ed ra
        refine ⟨?_, dl.tup r1 q1⟩
        rw [ra.length]
        have := Nat.le_of_ble_eq_true hle
        rw [sizeLine_eq]; omega
      · cases ed
    · cases h
  | .lst es, G, X, sc, top, E, e, C, h => by
    unfold mE at h
    split at h
    · rename_i xs pp
      refine PE.imp (pe_lst (sEs0 es G X sc top E xs C h)) fun σ H Q q => ?_
      obtain ⟨S, e, h, r, re, hb⟩ := q
      unfold evE at hb
      refine stepEs r re hb fun a S1 H1 v x1 r1 re1 ra hb1 hl => ?_
      obtain ⟨z, ez, dl⟩ := lfD_ok hb1
      obtain ⟨ds, ed, rfl⟩ := Option.map_eq_some_iff.mp ez
      unfold dats at ed
      split at ed
      · rename_i hle
        have q1 := dats_ok ed ra
        refine ⟨?_, dl.lst r1 q1⟩
        rw [ra.length]
        have := Nat.le_of_ble_eq_true hle
        rw [sizeLine_eq]; omega
      · cases ed
    · cases h
  | .bop o a b, G, X, sc, top, E, e, C, h => by
    unfold mE at h
    split at h
    · rename_i l op rr pp
      rw [Bool.and_eq_true, Bool.and_eq_true] at h
      refine PE.imp (pe_op (opOf C h.1.1) (sE0 a G X sc top E l C h.1.2) (sE0 b G X sc top E rr C h.2)) fun σ H Q q => ?_
      obtain ⟨S, e, h, r, re, hb⟩ := q
      unfold evE at hb
      refine stepE r re hb fun a S1 H1 v x1 r1 re1 ra hb1 => stepE r1 re1 hb1 fun b S2 H2 w x2 r2 re2 rb hb2 => ?_
      exact op2_ok r2 (RW.ext r1 x2 a v ra) rb hb2
    · cases h
  | .neg a, G, X, sc, top, E, e, C, h => by
    unfold mE at h
    split at h
    · rename_i y pp
      refine PE.imp (pe_un un_neg (sE0 a G X sc top E y C h)) fun σ H Q q => ?_
      obtain ⟨S, e, h, r, re, hb⟩ := q
      unfold evE at hb
      refine stepE r re hb fun a S1 H1 v x1 r1 re1 ra hb1 => ?_
      split at hb1
      · rename_i i
        exact ⟨i, (by have := ra; unfold RW RV at this; exact this), (okD hb1).int r1⟩
      · exact hb1.elim
    · cases h
  | .cmp o a b, G, X, sc, top, E, e, C, h => by
    unfold mE at h
    split at h
    · rename_i l op rr pp
      simp only [Bool.and_eq_true] at h
      obtain ⟨⟨⟨h1, h2⟩, h3⟩, h4⟩ := h
      refine PE.imp (pe_cmpR (copOf C h1) (sE0 a G X sc top E l C h3) (sE0 b G X sc top E rr C h4) (nomarkS h2)) fun σ H Q q => ?_
      obtain ⟨S, e, h, r, re, hb⟩ := q
      unfold evE at hb
      refine stepE r re hb fun a S1 H1 v x1 r1 re1 ra hb1 => stepE r1 re1 hb1 fun b S2 H2 w x2 r2 re2 rb hb2 => ?_
      exact op2_ok r2 (RW.ext r1 x2 a v ra) rb hb2
    · cases h
  | .chn o p a b c, G, X, sc, top, E, e, C, h => by
    unfold mE at h
    split at h
    · rename_i l op op' rr rr' pp
      simp only [Bool.and_eq_true] at h
      obtain ⟨⟨⟨⟨⟨⟨h1, h2⟩, h3⟩, h4⟩, h5⟩, h6⟩, h7⟩ := h
      refine PE.imp (pe_chain (copOf C h1) (copOf C h2) (sE0 a G X sc top E l C h5) (sE0 b G X sc top E rr C h6) (sE0 c G X sc top E rr' C h7) (nomarkS h4)) fun σ H Q q => ?_
      obtain ⟨S, e, h, r, re, hb⟩ := q
      unfold evE at hb
      exact chn_ok r re hb
    · cases h
  | .and a b, G, X, sc, top, E, e, C, h => by
    unfold mE at h
    split at h
    · rename_i l rr rest pp
      rw [Bool.and_eq_true] at h
      have hb2 : PE X (.BoolOp .And (rr :: rest) pp) (tE X.K X.mg G gc cl E b) := by
        have h2 := h.2
        split at h2
        · exact pe_one (sE0 b G X sc top E rr C h2)
        · exact sE0 b G X sc top E _ C h2
      refine PE.imp (pe_and (sE0 a G X sc top E l C h.1) hb2) fun σ H Q q => ?_
      obtain ⟨S, e, h, r, re, hb⟩ := q
      unfold evE at hb
      refine stepE r re hb fun a S1 H1 v x1 r1 re1 ra hb1 => ?_
      split at hb1
      · exact ⟨true, (by have := ra; unfold RW RV at this; exact this), iteT ⟨S1, e, h, r1, re1, hb1⟩⟩
      · exact ⟨false, (by have := ra; unfold RW RV at this; exact this), iteF ((okD hb1).bl r1)⟩
      · exact hb1.elim
    · cases h
  | .or a b, G, X, sc, top, E, e, C, h => by
    unfold mE at h
    split at h
    · rename_i l rr rest pp
      rw [Bool.and_eq_true] at h
      have hb2 : PE X (.BoolOp .Or (rr :: rest) pp) (tE X.K X.mg G gc cl E b) := by
        have h2 := h.2
        split at h2
        · exact pe_one (sE0 b G X sc top E rr C h2)
        · exact sE0 b G X sc top E _ C h2
      refine PE.imp (pe_or (sE0 a G X sc top E l C h.1) hb2) fun σ H Q q => ?_
      obtain ⟨S, e, h, r, re, hb⟩ := q
      unfold evE at hb
      refine stepE r re hb fun a S1 H1 v x1 r1 re1 ra hb1 => ?_
      split at hb1
      · exact ⟨false, (by have := ra; unfold RW RV at this; exact this), iteF ⟨S1, e, h, r1, re1, hb1⟩⟩
      · exact ⟨true, (by have := ra; unfold RW RV at this; exact this), iteT ((okD hb1).bl r1)⟩
      · exact hb1.elim
    · cases h
  | .not a, G, X, sc, top, E, e, C, h => by
    unfold mE at h
    split at h
    · rename_i y pp
      refine PE.imp (pe_not (sE0 a G X sc top E y C h)) fun σ H Q q => ?_
      obtain ⟨S, e, h, r, re, hb⟩ := q
      unfold evE at hb
      refine stepE r re hb fun a S1 H1 v x1 r1 re1 ra hb1 => ?_
      split at hb1
      · rename_i c
        exact ⟨c, (by have := ra; unfold RW RV at this; exact this), (okD hb1).bl r1⟩
      · exact hb1.elim
    · cases h
  | .ite c a b, G, X, sc, top, E, e, C, h => by
    unfold mE at h
    split at h
    · rename_i t y z pp
      rw [Bool.and_eq_true, Bool.and_eq_true] at h
      refine PE.imp (pe_ifExp (sT0 c G X sc top E t C h.1.1) (sE0 a G X sc top E y C h.1.2) (sE0 b G X sc top E z C h.2)) fun σ H Q q => ?_
      obtain ⟨S, e, h, r, re, hb⟩ := q
      unfold evE at hb
      refine stepT r re hb fun a S1 H1 x1 r1 re1 hb1 => ?_
      cases a with
      | true => exact iteT ⟨S1, e, h, r1, re1, hb1⟩
      | false => exact iteF ⟨S1, e, h, r1, re1, hb1⟩
    · cases h
  | .sub a i, G, X, sc, top, E, e, C, h => by
    unfold mE at h
    split at h
    · rename_i y s pp
      rw [Bool.and_eq_true, Bool.and_eq_true] at h
      refine PE.imp (pe_ix iR_sub (sE0 a G X sc top E y C h.1.2) (sE0 i G X sc top E s C h.2) (plainIx h.1.1)) fun σ H Q q => ?_
      obtain ⟨S, e, h, r, re, hb⟩ := q
      unfold evE at hb
      refine stepE r re hb fun a S1 H1 v x1 r1 re1 ra hb1 => stepE r1 re1 hb1 fun b S2 H2 w x2 r2 re2 rb hb2 => ?_
      exact op2_ok r2 (RW.ext r1 x2 a v ra) rb hb2
    · cases h
  | .slc a lo hi, G, X, sc, top, E, e, C, h => by
    unfold mE at h
    split at h
    · rename_i y l u p2 pp
      rw [Bool.and_eq_true, Bool.and_eq_true] at h
      refine PE.imp (pe_slice sR_slc (sE0 a G X sc top E y C h.1.1) (sO0 lo G X sc top E l C h.1.2) (sO0 hi G X sc top E u C h.2)) fun σ H Q q => ?_
      obtain ⟨S, e, h, r, re, hb⟩ := q
      unfold evE at hb
      refine stepE r re hb fun a S1 H1 v x1 r1 re1 ra hb1 => stepO r1 re1 hb1 fun b S2 H2 x2 r2 re2 hb2 => stepO r2 re2 hb2 fun c S3 H3 x3 r3 re3 hb3 => ?_
      split at hb3
      · rename_i p ep
        obtain ⟨z, ez, dl⟩ := lfD_ok hb3
        exact ⟨S3, h, a, p, z, r3, RW.ext r1 (x2.trans x3) a v ra, ep, ez, dl⟩
      · exact hb3.elim
    · cases h
  | .cal f es, G, X, sc, top, E, e, C, h => by
    unfold mE at h
    split at h
    · rename_i x p1 xs pp
      simp only [Bool.and_eq_true, decide_eq_true_eq] at h
      obtain ⟨⟨⟨⟨⟨h1, h2⟩, h3⟩, h4⟩, h5⟩, h6⟩ := h
      obtain ⟨fa, fd, ga, kp, b, _, F⟩ := C.W.fn f h1
      rw [h2] at ga
      have fin : ∀ σ H Q, tE X.K X.mg G gc cl E (.cal f es) σ H Q → tEsL X.K X.mg G gc cl E xs.length es σ H fun vs H1 => spC X.K X.mg G cl f (vs ++ []) H1 Q E := fun σ H Q q => by
        obtain ⟨S, e, h, r, re, hb⟩ := q
        unfold evE at hb
        refine stepEs r re hb fun a S1 H1 v x1 r1 re1 ra hb1 hl => ?_
        split at hb1
        · rename_i ds ed
          rw [List.append_nil]
          exact spC_of r1 ra ed (by rw [h5]; exact hl) hb1
        · exact hb1.elim
      have pa := sEs0 es G X sc top E xs C h6
      cases xs with
      | nil =>
        refine PE.imp (pe_call0 F (C.room.mono (by omega)) (C.gl h3) ga kp b .nil C.pass (nodbg_ok h4).1) fun σ H Q q => ?_
        have q2 := fin σ H Q q
        obtain ⟨S, e, h, r, re, hb⟩ := q2
        cases es with
        | nil =>
          unfold evEs at hb
          exact hb S H (Ext.refl S H) r [] rfl rfl
        | cons => simp [mEs] at h6
      | cons y ys =>
        have hst := mEs_st es (y :: ys) h6
        rw [List.all_cons, Bool.and_eq_true] at hst
        exact PE.imp (pe_call F (C.room.mono (by omega)) (C.gl h3) ga kp b .nil C.pass pa (nodbg_ok h4).1 (star_cons hst.1) (star_any hst.2)) fun σ H Q q => fin σ H Q q
    · cases h
  | .cak f es ks, G, X, sc, top, E, e, C, h => by
    unfold mE at h
    split at h
    · rename_i x p1 xs kws pp
      simp only [Bool.and_eq_true, decide_eq_true_eq] at h
      obtain ⟨⟨⟨⟨⟨⟨⟨⟨h1, h2⟩, h3⟩, h4⟩, h5⟩, h6⟩, h9⟩, h7⟩, h8⟩ := h
      obtain ⟨fa, fd, ga, kp, _, b, F⟩ := C.W.fn f h1
      replace b := b h9
      rw [h2] at ga
      have fin : ∀ σ H Q, tE X.K X.mg G gc cl E (.cak f es ks) σ H Q → tEsL X.K X.mg G gc cl E xs.length es σ H fun vs H1 => vs.length = xs.length ∧ tEsL X.K X.mg G gc cl E kws.length ks σ H1 fun zs H2 => spC X.K X.mg G cl f (vs ++ zs) H2 Q E := fun σ H Q q => by
        obtain ⟨S, e, h, r, re, hb⟩ := q
        unfold evE at hb
        refine stepEs r re hb fun a S1 H1 v x1 r1 re1 ra hb1 hl => ⟨hl, stepEs r1 re1 hb1 fun b S2 H2 w x2 r2 re2 rb hb2 hl2 => ?_⟩
        split at hb2
        · rename_i ds ed
          exact spC_of r2 ((RWs.ext r1 x2 a v ra).append rb) ed (by rw [h6, List.length_append, hl, hl2]) hb2
        · exact hb2.elim
      have pa := sEs0 es G X sc top E xs C h7
      have pk := sKs0 ks G X sc top E kws C h8
      cases xs with
      | nil =>
        refine PE.imp (pe_callKS0 F (C.room.mono (by omega)) (C.gl h3) ga kp b C.pass (by rw [h5]; rfl) (nodbg_ok h4).1 pk) fun σ H Q q => ?_
        have q2 := fin σ H Q q
        obtain ⟨S, e, h, r, re, hb⟩ := q2
        cases es with
        | nil =>
          unfold evEs at hb
          exact (hb S H (Ext.refl S H) r [] rfl rfl).2
        | cons => simp [mEs] at h7
      | cons y ys => exact PE.imp (pe_callKS F (C.room.mono (by omega)) (C.gl h3) ga kp b C.pass (mEs_st es (y :: ys) h7) h5 (nodbg_ok h4).1 pa pk) fun σ H Q q => fin σ H Q q
    · cases h
  | .blt b es, G, X, sc, top, E, e, C, h => by
    unfold mE at h
    split at h
    · rename_i x p1 y xs pp
      simp only [Bool.and_eq_true, decide_eq_true_eq] at h
      obtain ⟨⟨h1, h2⟩, h3⟩ := h
      have hst := mEs_st es (y :: xs) h3
      rw [List.all_cons, Bool.and_eq_true] at hst
      have pa := sEs0 es G X sc top E (y :: xs) C h3
      have pe : PE X (.Call (.Name x p1) (y :: xs) [] pp) (tCB (rBl X.K (bltD b)) (tEsL X.K X.mg G gc cl E (y :: xs).length es)) := blt_ok C h1 h2 hst pa
      refine PE.imp pe fun σ H Q q => ?_
      obtain ⟨S, e, h, r, re, hb⟩ := q
      unfold evE at hb
      refine stepEs r re hb fun a S1 H1 v x1 r1 re1 ra hb1 hl => ?_
      split at hb1
      · rename_i ds ed
        obtain ⟨z, ez, dl⟩ := lfD_ok hb1
        exact ⟨S1, h, a, ds, z, r1, ra, ed, ez, dl⟩
      · exact hb1.elim
    · cases h
  | .mth m o a, G, X, sc, top, E, e, C, h => by
    unfold mE at h
    split at h
    · rename_i x kk ap y pp
      simp only [Bool.and_eq_true, decide_eq_true_eq] at h
      obtain ⟨⟨⟨⟨⟨⟨h1, h2⟩, h3⟩, _⟩, h4⟩, h5⟩, h6⟩ := h
      subst h1
      cases m with
      | join =>
        have pe : PE X (.Call (.Attribute x (mthS .join) ap) [y] [] pp) (tM1 (rMt X.K (mthD .join)) (tE X.K X.mg G gc cl E o) (tE X.K X.mg G gc cl E a)) := pe_m1 F.slot_str_join F.type_str_join mR_join (sE0 o G X sc top E x C h5) (sE0 a G X sc top E y C h6) (star_cons h3) (attrBase h4) h2
        refine PE.imp pe fun σ H Q q => ?_
        obtain ⟨S, e, h, r, re, hb⟩ := q
        unfold evE at hb
        refine stepE r re hb fun a S1 H1 v x1 r1 re1 ra hb1 => ?_
        split at hb1
        · rename_i s _
          refine ⟨⟨⟨s.toArray⟩, (by have := ra; unfold RW RV at this; exact this)⟩, stepE r1 re1 hb1 fun b S2 H2 w x2 r2 re2 rb hb2 => ?_⟩
          exact ⟨w, rfl, op2_ok r2 (RW.ext r1 x2 _ v ra) rb hb2⟩
        · cases ‹Mth.join = Mth.split›
        · cases ‹Mth.join = Mth.count›
        · exact hb1.elim
      | split =>
        have pe : PE X (.Call (.Attribute x (mthS .split) ap) [y] [] pp) (tM1 (rMt X.K (mthD .split)) (tE X.K X.mg G gc cl E o) (tE X.K X.mg G gc cl E a)) := pe_m1 F.slot_str_split F.type_str_split mR_split (sE0 o G X sc top E x C h5) (sE0 a G X sc top E y C h6) (star_cons h3) (attrBase h4) h2
        refine PE.imp pe fun σ H Q q => ?_
        obtain ⟨S, e, h, r, re, hb⟩ := q
        unfold evE at hb
        refine stepE r re hb fun a S1 H1 v x1 r1 re1 ra hb1 => ?_
        split at hb1
        · cases ‹Mth.split = Mth.join›
        · rename_i s _
          refine ⟨⟨⟨s.toArray⟩, (by have := ra; unfold RW RV at this; exact this)⟩, stepE r1 re1 hb1 fun b S2 H2 w x2 r2 re2 rb hb2 => ?_⟩
          exact ⟨w, rfl, op2_ok r2 (RW.ext r1 x2 _ v ra) rb hb2⟩
        · cases ‹Mth.split = Mth.count›
        · exact hb1.elim
      | count =>
        have pe : PE X (.Call (.Attribute x (mthS .count) ap) [y] [] pp) (tBM X.K "list" (rCntI X.K) (tE X.K X.mg G gc cl E o) (tCons (tE X.K X.mg G gc cl E a) tNil)) := pe_bm PySem.F.plainAttrs_list PySem.F.slot_list_count PySem.F.type_list_count mt_lcount (sE0 o G X sc top E x C h5) (pa_cons (sE0 a G X sc top E y C h6) pa_nil (star_cons h3)) (attrBase h4) (by rw [star_cons h3]; rfl) h2 (star_cons h3) rfl
        refine PE.imp pe fun σ H Q q => ?_
        obtain ⟨S, e, h, r, re, hb⟩ := q
        unfold evE at hb
        refine stepE r re hb fun a S1 H1 v x1 r1 re1 ra hb1 => ?_
        split at hb1
        · cases ‹Mth.count = Mth.join›
        · cases ‹Mth.count = Mth.split›
        · rename_i xs _
          obtain ⟨p, vs, rfl, t, q⟩ := ra.lst r1 rfl
          refine ⟨.inl ⟨rfl, _, SqL.of t⟩, stepE r1 re1 hb1 fun b S2 H2 w x2 r2 re2 rb hb2 => ?_⟩
          exact cnt_ok (op2_ok r2 (RW.ext r1 x2 _ _ ra) rb hb2)
        · exact hb1.elim
    · cases h
  | .sst a, G, X, sc, top, E, e, C, h => by
    unfold mE at h
    split at h
    · rename_i x p1 z p2 y p3 pp
      simp only [Bool.and_eq_true, decide_eq_true_eq] at h
      obtain ⟨⟨⟨⟨⟨h1, h2⟩, h3⟩, h4⟩, h5⟩, h6⟩ := h
      subst h1 h3
      refine PE.imp (pe_callB (cr_or (cr_or (cr_sortedT C.calm) (cr_sortedI C.calm)) (cr_sortedN C.calm C.room.units)) (C.gl h2) (C.free (by decide)) boot_sorted (pa_cons (pe_callTy (cr_or (cr_or (cr_setOfT C.calm C.room.units) (cr_setOfI C.calm)) (cr_setOfN C.calm C.room.units)) (C.gl h4) (C.free (by decide)) boot_set (pa_cons (sE0 a G X sc top E y C h6) pa_nil (star_cons h5)) (by decide) (by decide) (star_cons h5) rfl) pa_nil) (by decide) (by decide) rfl rfl) fun σ H Q q => ?_
      obtain ⟨S, e, h, r, re, hb⟩ := q
      unfold evE at hb
      refine stepE r re hb fun a S1 H1 v x1 r1 re1 ra hb1 => ?_
      split at hb1
      · rename_i p ep
        obtain ⟨zz, ez, dl⟩ := lfD_ok hb1
        exact sstA_ok r1 ra ep ez dl
      · exact hb1.elim
    · cases h
  | .lns a, G, X, sc, top, E, e, C, h => by
    unfold mE at h
    split at h
    · rename_i x p1 z p2 y p3 pp
      simp only [Bool.and_eq_true, decide_eq_true_eq] at h
      obtain ⟨⟨⟨⟨⟨h1, h2⟩, h3⟩, h4⟩, h5⟩, h6⟩ := h
      subst h1 h3
      refine PE.imp (pe_callB (cr_or cr_lenI cr_lenN) (C.gl h2) (C.free (by decide)) boot_len (pa_cons (pe_callTy (cr_or (cr_setOfI C.calm) (cr_setOfN C.calm C.room.units)) (C.gl h4) (C.free (by decide)) boot_set (pa_cons (sE0 a G X sc top E y C h6) pa_nil (star_cons h5)) (by decide) (by decide) (star_cons h5) rfl) pa_nil) (by decide) (by decide) rfl rfl) fun σ H Q q => ?_
      obtain ⟨S, e, h, r, re, hb⟩ := q
      unfold evE at hb
      refine stepE r re hb fun a S1 H1 v x1 r1 re1 ra hb1 => ?_
      split at hb1
      · rename_i p ep
        obtain ⟨zz, ez, dl⟩ := lfD_ok hb1
        exact lns_ok r1 ra ep ez dl
      · exact hb1.elim
    · cases h
  | .res x, G, X, sc, top, E, e, C, h => by
    unfold mE at h
    split at h
    · rename_i f p1 ps bd lsc p2 pp
      simp only [Bool.and_eq_true, decide_eq_true_eq] at h
      obtain ⟨⟨⟨⟨⟨⟨h1, h2⟩, h3⟩, h4⟩, h5⟩, h6⟩, h7⟩ := h
      subst h3
      obtain ⟨⟨g, oc, od, pg, bg, dV, kV, doc, pm, an, cdv, ct, osl, m1, m2, m3, m4, m5, m6⟩, hcls⟩ := C.W.res h1
      obtain ⟨c, P, tB, hcode, hmem⟩ := C.lam h2
      have hr2 := C.room2 h2
      have hpl : ps = ⟨[], [], none, [], [], none, []⟩ := by
        obtain ⟨a1, a2, a3, a4, a5, a6, a7⟩ := ps
        unfold noPar at h5
        simp only [Bool.and_eq_true, List.isEmpty_iff, Option.isNone_iff_eq_none] at h5
        obtain ⟨⟨⟨⟨⟨⟨rfl, rfl⟩, rfl⟩, rfl⟩, rfl⟩, rfl⟩, rfl⟩ := h5
        rfl
      subst hpl
      refine PE.imp (LamX.pe_lamcall (T := tbl X.K) (TT := TRes X.K) (k := 4 * k + 1) (t := fun E' => tE X.K X.mg G gc cl E' x) (C.gl h4) m1 m2 m3 m4 m5 (Ng := resN) (scB_res) rfl (.inl rfl)
        (m6 X rfl rfl rfl rfl rfl (fun e => hu_of (hr2.mono (Nat.le_succ _) |>.deeper e)) _) tB hcode hmem (fun p hp e => C.W.tun p hp _ hmem e) hr2 (by rw [C.hs]; exact LamX.lamS_by h6) rfl (fun _ _ _ _ _ => rfl)
        (fun A outer s H E' f c' hr3 => sE0 x { G with lm := false } (LamX.lamCx X A outer s H E' lsc f c') lsc false E' bd ⟨C.hN, C.nd, rfl, rfl, hr3, (fun z => nomatch z), C.pw, (fun z => nomatch z), takes_of rfl rfl rfl rfl, (fun z => nomatch z), C.W.lm⟩ h7)) fun σ H Q q => ?_
      obtain ⟨S, e, h, r, re, hb⟩ := q
      refine ⟨r.tab, fun H1 xn ht H2 xm E' Q' hE hQ => ?_⟩
      have kk : ∀ a o, H a = some o → NT o → H2 a = some o := fun a o e n => xm a o (xn a o e n)
      have x2 : Ext S H S H2 := ext_more kk
      have r2 : RelH X.K S H2 h := r.more kk (ht.ext xm)
      unfold evE at hb
      refine ⟨S, e, h, r2, re.ext r x2, F.All.imp (fun y p => ?_) (F.All_bind.mp hb)⟩
      cases y with
      | ok a =>
        cases a with
        | r n => exact p.elim
        | d d =>
          intro S' H' x' r' v rv
          refine hQ v H' fun pp hp => ?_
          refine p S' _ ((x2.trans x').trans (ext_new hp)) (r'.new hp) _ ?_
          show RV _ _ _ _ _
          unfold RV
          exact ⟨pp, [.str "returns", v], rfl, .inl (.inl upd_same), .cons (by unfold RV; kernel_rfl) (.cons (RV.ext r' (ext_new hp) d v rv) .nil)⟩
      | ex cn =>
        intro S' H' x' r' Cc hC
        have p : (match exNm cn with
          | some (_, s) => ok (.d (.tup [.str s]))
          | none => .stk : M Vv).All (Po X.K X.mg G S H h (qV X.K Q) E) := p
        split at p
        · rename_i i s hs
          obtain ⟨nm, g1, g2, g3, g4⟩ := hcls cn i s hs Cc hC
          refine hE _ _ _ ⟨i, nm, G.enm cn, g1, by rw [g3], rfl, g4, fun H'' pp k2 hp ht2 => ?_⟩
          have x3 : Ext S' H' S' H'' := ext_more fun a o e _ => k2 a o e
          refine p S' _ ((x2.trans x').trans x3) (r'.more (fun a o e _ => k2 a o e) (r'.tab.ext k2)) _ ?_
          show RV _ _ _ _ _
          unfold RV
          exact ⟨pp, [.str nm], rfl, .inl (.inl ht2), .cons (by unfold RV; rw [g2]) .nil⟩
        · exact p.elim
    · cases h
  | .isi t a, G, X, sc, top, E, e, C, h => by
    unfold mE at h
    split at h
    · rename_i x p1 y z p2 pp
      simp only [Bool.and_eq_true, decide_eq_true_eq] at h
      obtain ⟨⟨⟨⟨⟨h1, h2⟩, h3⟩, h4⟩, h5⟩, h6⟩ := h
      subst h1 h3
      have pt : PE X (.Name (Str.ofString (ityS t)) p2) (tC (.ty (ityS t))) := ity_pe C h4
      refine PE.imp (pe_callB call_isi (C.gl h2) (C.free (by decide)) boot_isinstance (pa_cons (sE0 a G X sc top E y C h6) (pa_cons pt pa_nil) (star_cons h5)) (by decide) (by decide) (star_cons h5) rfl) fun σ H Q q => ?_
      obtain ⟨S, e, h, r, re, hb⟩ := q
      unfold evE at hb
      refine stepE r re hb fun a S1 H1 v x1 r1 re1 ra hb1 => ?_
      split at hb1
      · rename_i p ep
        obtain ⟨zz, ez, dl⟩ := lfD_ok hb1
        obtain ⟨b, eb, rfl⟩ := Option.map_eq_some_iff.mp ez
        refine ⟨v, .ty (ityS t), _, _, b, rfl, .ty _, ra.tyX r1 ep (fun n e2 => ?_) (fun c n e2 => ?_) (fun n e2 => ?_), kit_ty (ity_kit t p b eb), dl.bl r1⟩
        · subst e2
          cases t <;> simp [ityD] at eb
        · subst e2
          cases t <;> simp [ityD] at eb
        · subst e2
          cases t <;> simp [ityD] at eb
      · exact hb1.elim
    · cases h
  | .dl3 k1 k2 k3 a b c i, G, X, sc, top, E, e, C, h => by
    unfold mE at h
    split at h
    · rename_i z1 m1 p1 z2 m2 p2 z3 m3 p3 va vb vc p4 s p5
      simp only [Bool.and_eq_true, decide_eq_true_eq] at h
      obtain ⟨⟨⟨⟨⟨⟨⟨⟨⟨⟨g1, g2⟩, g3⟩, h1⟩, h2⟩, h3⟩, h4⟩, h5⟩, h6⟩, h7⟩, h8⟩ := h
      subst g1 g2 g3
      exact s_dl3 C h1 h2 h3 h4 (sE0 a G X sc top E va C h5) (sE0 b G X sc top E vb C h6) (sE0 c G X sc top E vc C h7) (sE0 i G X sc top E s C h8)
    · cases h
  | .fld a f, G, X, sc, top, E, e, C, h => by
    unfold mE at h
    split at h
    · rename_i x nm pp
      simp only [Bool.and_eq_true, decide_eq_true_eq] at h
      obtain ⟨⟨h1, h2⟩, h3⟩ := h
      subst h1
      exact s_fld (sE0 a G X sc top E x C h3) h2
    · cases h
  | .cam mi ms o es, G, X, sc, top, E, e, C, h => by
    unfold mE at h
    split at h
    · rename_i x nm ap xs pp
      simp only [Bool.and_eq_true, decide_eq_true_eq] at h
      obtain ⟨⟨⟨⟨⟨h1, h2⟩, h3⟩, h4⟩, h5⟩, h6⟩ := h
      exact s_cam C (by simpa using h1) h2 h3 h4 (sE0 o G X sc top E x C h5) (sEs0 es G X sc top E xs C h6) h6
    · cases h
  | .mak f es, G, X, sc, top, E, e, C, h => by
    unfold mE at h
    split at h
    · rename_i x p1 y ys pp
      simp only [Bool.and_eq_true, decide_eq_true_eq] at h
      obtain ⟨⟨⟨⟨⟨h1, h2⟩, h3⟩, h4⟩, h5⟩, h6⟩ := h
      exact s_mak C h1 h2 h3 h4 h5 (sEs0 es G X sc top E (y :: ys) C h6) h6
    · cases h
  | .oln ms o, G, X, sc, top, E, e, C, h => by
    unfold mE at h
    split at h
    · rename_i x p1 y pp
      simp only [Bool.and_eq_true, decide_eq_true_eq] at h
      obtain ⟨⟨⟨⟨h1, h2⟩, h3⟩, h4⟩, h5⟩ := h
      exact s_oln C (by simpa only [Bool.and_eq_true, decide_eq_true_eq] using h1) h2 h3 h4 (sE0 o G X sc top E y C h5)
    · cases h
  | .oeq ng ms a b, G, X, sc, top, E, e, C, h => by
    unfold mE at h
    split at h
    · rename_i x op y pp
      rw [Bool.and_eq_true, Bool.and_eq_true, Bool.and_eq_true] at h
      exact s_oeq C h.1.1.1 h.1.1.2 (sE0 a G X sc top E x C h.1.2) (sE0 b G X sc top E y C h.2)
    · cases h
  | .iso c a, G, X, sc, top, E, e, C, h => by
    unfold mE at h
    split at h
    · rename_i x p1 y z p2 pp
      simp only [Bool.and_eq_true, decide_eq_true_eq] at h
      obtain ⟨⟨⟨⟨⟨⟨⟨h0, h1⟩, h2⟩, h3⟩, h4⟩, h6⟩, h5⟩, h7⟩ := h
      exact s_iso C h0 h1 h2 h3 h4 h6 h5 (sE0 a G X sc top E y C h7)
    · cases h
  | .dgi x i, G, X, sc, top, E, e, C, h => by
    unfold mE at h
    split at h
    · rename_i y s pp
      simp only [Bool.and_eq_true] at h
      exact s_dgi C h.1.1 (sE0 x G X sc top E y C h.1.2) (sE0 i G X sc top E s C h.2)
    · cases h
  | .din ng i x, G, X, sc, top, E, e, C, h => by
    unfold mE at h
    split at h
    · rename_i l op rr pp
      simp only [Bool.and_eq_true] at h
      exact s_din C h.1.1.1 h.1.1.2 (sE0 i G X sc top E l C h.1.2) (sE0 x G X sc top E rr C h.2)
    · cases h
  | .dgt x i d, G, X, sc, top, E, e, C, h => by
    unfold mE at h
    split at h
    · rename_i o nm ap y z pp
      simp only [Bool.and_eq_true, decide_eq_true_eq] at h
      obtain ⟨⟨⟨⟨⟨⟨⟨h1, h2⟩, h3⟩, h4⟩, h5⟩, h6⟩, h7⟩, h8⟩ := h
      subst h1
      exact s_dgt C h2 h3 h4 h5 (sE0 x G X sc top E o C h6) (sE0 i G X sc top E y C h7) (sE0 d G X sc top E z C h8)
    · cases h
  | .srk x, G, X, sc, top, E, e, C, h => by
    unfold mE at h
    split at h
    · rename_i f p1 y pp
      simp only [Bool.and_eq_true, decide_eq_true_eq] at h
      obtain ⟨⟨⟨h1, h2⟩, h3⟩, h4⟩ := h
      subst h1
      exact s_srk C h2 h3 (sE0 x G X sc top E y C h4)
    · cases h
  | .lsk x, G, X, sc, top, E, e, C, h => by
    unfold mE at h
    split at h
    · rename_i f p1 y pp
      simp only [Bool.and_eq_true, decide_eq_true_eq] at h
      obtain ⟨⟨⟨h1, h2⟩, h3⟩, h4⟩ := h
      subst h1
      exact s_lsk C h2 h3 (sE0 x G X sc top E y C h4)
    · cases h
  | .dcl x, G, X, sc, top, E, e, C, h => by
    unfold mE at h
    split at h
    · rename_i f p1 y pp
      simp only [Bool.and_eq_true, decide_eq_true_eq] at h
      obtain ⟨⟨⟨h1, h2⟩, h3⟩, h4⟩ := h
      subst h1
      exact s_dcl C h2 h3 (sE0 x G X sc top E y C h4)
    · cases h
  | .cmp1 elt tg it own, G, X, sc, top, E, e, C, h => by
    unfold mE at h
    split at h
    · rename_i x t iter scope pp
      simp only [Bool.and_eq_true] at h
      obtain ⟨⟨⟨⟨⟨h1, h2⟩, h3⟩, h4⟩, h5⟩, h6⟩ := h
      have hN : X.N.Nodup := by rw [C.hN]; exact C.nd
      have bo : BlkOk X.N X.env.scope scope (ownN N own) := by
        rw [C.hN, C.hs]; exact blkOk_by h1
      refine PE.imp (pe_lc (own := ownN N own) (g := gT X.K tg) (tt := tYes) (te := tE X.K X.mg G gc cl (fun _ _ _ => False) elt) C.calm hN (sI0 it G X sc top E t iter C h5) bo
        (fun s H Cc cl' fp => sTg (C.blk s H scope cl' Cc fp) tg t h4) (fun _ _ _ _ _ => pts_nil) (fun s H Cc cl' fp => sE0 elt _ _ _ _ _ x (C.blk s H scope cl' Cc fp) h6) (folded h3)) fun σ H Q q => (by rw [ownN_map]; exact lc1_imp h2 q)
    · cases h
  | .cmpc elt tg it c own, G, X, sc, top, E, e, C, h => by
    unfold mE at h
    split at h
    · rename_i x t iter cd scope pp
      simp only [Bool.and_eq_true] at h
      obtain ⟨⟨⟨⟨⟨⟨h1, h2⟩, h3⟩, h4⟩, h5⟩, h7⟩, h6⟩ := h
      have hN : X.N.Nodup := by rw [C.hN]; exact C.nd
      have bo : BlkOk X.N X.env.scope scope (ownN N own) := by
        rw [C.hN, C.hs]; exact blkOk_by h1
      refine PE.imp (pe_lc (own := ownN N own) (g := gT X.K tg) (tt := tT X.K X.mg G gc cl (fun _ _ _ => False) c) (te := tE X.K X.mg G gc cl (fun _ _ _ => False) elt) C.calm hN (sI0 it G X sc top E t iter C h5) bo
        (fun s H Cc cl' fp => sTg (C.blk s H scope cl' Cc fp) tg t h4) (fun s H Cc cl' fp => pts_one (sT0 c _ _ _ _ _ cd (C.blk s H scope cl' Cc fp) h7)) (fun s H Cc cl' fp => sE0 elt _ _ _ _ _ x (C.blk s H scope cl' Cc fp) h6) (folded h3)) fun σ H Q q => (by rw [ownN_map]; exact lcc_imp h2 q)
    · cases h
theorem sEs0 : ∀ (x : Exs) (G : Nm) (X : Cx) (sc : Scope) (top : Bool) (E : XK) (es : List PySem.Expr), Cok X N sc top E k G gc cl → mEs G N x sc es = true → PA X es (tEsL X.K X.mg G gc cl E es.length x)
  | .nil, G, X, sc, top, E, es, C, h => by
    unfold mEs at h
    split at h
    · refine PA.imp pa_nil fun σ H Q q => ?_
      obtain ⟨S, e, h, r, re, hb⟩ := q
      unfold evEs at hb
      exact hb S H (Ext.refl S H) r [] rfl rfl
    · cases h
  | .cons x xs, G, X, sc, top, E, es, C, h => by
    unfold mEs at h
    split at h
    · rename_i y ys
      rw [Bool.and_eq_true, Bool.and_eq_true] at h
      refine PA.imp (pa_cons (sE0 x G X sc top E y C h.1.2) (sEs0 xs G X sc top E ys C h.2) (star_cons h.1.1)) fun σ H Q q => ?_
      obtain ⟨S, e, h, r, re, hb⟩ := q
      unfold evEs at hb
      refine stepE r re hb fun a S1 H1 v x1 r1 re1 ra hb1 => stepEs r1 re1 hb1 fun as S2 H2 vs x2 r2 re2 ras hb2 hl => ?_
      exact hb2 S2 H2 (Ext.refl S2 H2) r2 (v :: vs) ⟨v, vs, rfl, RW.ext r1 x2 a v ra, ras⟩ (by rw [List.length_cons, List.length_cons, hl])
    · cases h
theorem sKs0 : ∀ (x : Exs) (G : Nm) (X : Cx) (sc : Scope) (top : Bool) (E : XK) (es : List Keyword), Cok X N sc top E k G gc cl → mKs G N x sc es = true → PK X es (tEsL X.K X.mg G gc cl E es.length x)
  | .nil, G, X, sc, top, E, es, C, h => by
    unfold mKs at h
    split at h
    · refine PK.imp pk_nil fun σ H Q q => ?_
      obtain ⟨S, e, h, r, re, hb⟩ := q
      unfold evEs at hb
      exact hb S H (Ext.refl S H) r [] rfl rfl
    · cases h
  | .cons x xs, G, X, sc, top, E, es, C, h => by
    unfold mKs at h
    split at h
    · rename_i y ys
      obtain ⟨yn, yv, yp⟩ := y
      rw [Bool.and_eq_true, Bool.and_eq_true] at h
      refine PK.imp (pk_cons (nm := yn) (kpos := yp) (sE0 x G X sc top E yv C h.1.2) (sKs0 xs G X sc top E ys C h.2)) fun σ H Q q => ?_
      obtain ⟨S, e, h, r, re, hb⟩ := q
      unfold evEs at hb
      refine stepE r re hb fun a S1 H1 v x1 r1 re1 ra hb1 => stepEs r1 re1 hb1 fun as S2 H2 vs x2 r2 re2 ras hb2 hl => ?_
      exact hb2 S2 H2 (Ext.refl S2 H2) r2 (v :: vs) ⟨v, vs, rfl, RW.ext r1 x2 a v ra, ras⟩ (by rw [List.length_cons, List.length_cons, hl])
    · cases h
theorem sO0 : ∀ (x : Ox) (G : Nm) (X : Cx) (sc : Scope) (top : Bool) (E : XK) (e : Option PySem.Expr), Cok X N sc top E k G gc cl → mO G N x sc e = true → PO X e (tO X.K X.mg G gc cl E x)
  | .no, G, X, sc, top, E, e, C, h => by
    unfold mO at h
    split at h
    · refine PO.imp po_none fun σ H Q q => ?_
      obtain ⟨S, e, h, r, re, hb⟩ := q
      unfold evO at hb
      exact hb S H (Ext.refl S H) r
    · cases h
  | .so x, G, X, sc, top, E, e, C, h => by
    unfold mO at h
    split at h
    · rename_i y
      refine PO.imp (po_some (sE0 x G X sc top E y C h)) fun σ H Q q => ?_
      obtain ⟨S, e, h, r, re, hb⟩ := q
      unfold evO at hb
      refine stepE r re hb fun a S1 H1 v x1 r1 re1 ra hb1 => ?_
      split at hb1
      · rename_i i
        exact ⟨i, (by have := ra; unfold RW RV at this; exact this), hb1 S1 H1 (Ext.refl S1 H1) r1⟩
      · exact hb1.elim
    · cases h
theorem sT0 : ∀ (x : Tx) (G : Nm) (X : Cx) (sc : Scope) (top : Bool) (E : XK) (e : PySem.Expr), Cok X N sc top E k G gc cl → mT G N x sc e = true → PT X e (tT X.K X.mg G gc cl E x)
  | .val (.cmp o a b), G, X, sc, top, E, e, C, h => by
    unfold mT at h
    rw [Bool.and_eq_true] at h
    obtain ⟨l, op, rr, pp, rfl, h1, h2, h3, h4⟩ := inv_cmp h.2
    refine PT.imp (pt_cmpR (copOf C h1) (sE0 a G X sc top E l C h3) (sE0 b G X sc top E rr C h4) (nomarkS h2)) fun σ H Q q => ?_
    obtain ⟨S, e, h, r, re, hb⟩ := q
    unfold evT evE at hb
    exact cmpT_ok r re hb
  | .val (.chn o p a b c), G, X, sc, top, E, e, C, h => by
    unfold mT at h
    rw [Bool.and_eq_true] at h
    obtain ⟨l, op, op', rr, rr', pp, rfl, h1, h2, h4, h5, h6, h7⟩ := inv_chn h.2
    refine PT.imp (pt_chain (copOf C h1) (copOf C h2) (sE0 a G X sc top E l C h5) (sE0 b G X sc top E rr C h6) (sE0 c G X sc top E rr' C h7) (nomarkS h4)) fun σ H Q q => ?_
    obtain ⟨S, e, h, r, re, hb⟩ := q
    unfold evT evE at hb
    exact chnT_ok r re hb
  | .val (.var i), G, X, sc, top, E, e, C, h => sTv rfl h fun h2 => sE0 (.var i) G X sc top E e C h2
  | .val (.cst d), G, X, sc, top, E, e, C, h => sTv rfl h fun h2 => sE0 (.cst d) G X sc top E e C h2
  | .val (.glo g), G, X, sc, top, E, e, C, h => sTv rfl h fun h2 => sE0 (.glo g) G X sc top E e C h2
  | .val (.tup es), G, X, sc, top, E, e, C, h => sTv rfl h fun h2 => sE0 (.tup es) G X sc top E e C h2
  | .val (.lst es), G, X, sc, top, E, e, C, h => sTv rfl h fun h2 => sE0 (.lst es) G X sc top E e C h2
  | .val (.bop o a b), G, X, sc, top, E, e, C, h => sTv rfl h fun h2 => sE0 (.bop o a b) G X sc top E e C h2
  | .val (.neg a), G, X, sc, top, E, e, C, h => sTv rfl h fun h2 => sE0 (.neg a) G X sc top E e C h2
  | .val (.and a b), G, X, sc, top, E, e, C, h => sTv rfl h fun h2 => sE0 (.and a b) G X sc top E e C h2
  | .val (.or a b), G, X, sc, top, E, e, C, h => sTv rfl h fun h2 => sE0 (.or a b) G X sc top E e C h2
  | .val (.not a), G, X, sc, top, E, e, C, h => sTv rfl h fun h2 => sE0 (.not a) G X sc top E e C h2
  | .val (.ite c a b), G, X, sc, top, E, e, C, h => sTv rfl h fun h2 => sE0 (.ite c a b) G X sc top E e C h2
  | .val (.sub a i), G, X, sc, top, E, e, C, h => sTv rfl h fun h2 => sE0 (.sub a i) G X sc top E e C h2
  | .val (.slc a lo hi), G, X, sc, top, E, e, C, h => sTv rfl h fun h2 => sE0 (.slc a lo hi) G X sc top E e C h2
  | .val (.cal f es), G, X, sc, top, E, e, C, h => sTv rfl h fun h2 => sE0 (.cal f es) G X sc top E e C h2
  | .val (.cak f es ks), G, X, sc, top, E, e, C, h => sTv rfl h fun h2 => sE0 (.cak f es ks) G X sc top E e C h2
  | .val (.blt b es), G, X, sc, top, E, e, C, h => sTv rfl h fun h2 => sE0 (.blt b es) G X sc top E e C h2
  | .val (.mth m o a), G, X, sc, top, E, e, C, h => sTv rfl h fun h2 => sE0 (.mth m o a) G X sc top E e C h2
  | .val (.sst a), G, X, sc, top, E, e, C, h => sTv rfl h fun h2 => sE0 (.sst a) G X sc top E e C h2
  | .val (.res a), G, X, sc, top, E, e, C, h => sTv rfl h fun h2 => sE0 (.res a) G X sc top E e C h2
  | .val (.dl3 k1 k2 k3 a b c i), G, X, sc, top, E, e, C, h => sTv rfl h fun h2 => sE0 (.dl3 k1 k2 k3 a b c i) G X sc top E e C h2
  | .val (.fld a f), G, X, sc, top, E, e, C, h => sTv rfl h fun h2 => sE0 (.fld a f) G X sc top E e C h2
  | .val (.cam mi ms o es), G, X, sc, top, E, e, C, h => sTv rfl h fun h2 => sE0 (.cam mi ms o es) G X sc top E e C h2
  | .val (.mak f es), G, X, sc, top, E, e, C, h => sTv rfl h fun h2 => sE0 (.mak f es) G X sc top E e C h2
  | .val (.oeq ng ms a b), G, X, sc, top, E, e, C, h => by
    unfold mT at h
    rw [Bool.and_eq_true] at h
    replace h := h.2
    unfold mE at h
    split at h
    · rename_i x op y pp
      rw [Bool.and_eq_true, Bool.and_eq_true, Bool.and_eq_true] at h
      exact s_oeqT C h.1.1.1 h.1.1.2 (sE0 a G X sc top E x C h.1.2) (sE0 b G X sc top E y C h.2)
    · cases h
  | .val (.din ng i x), G, X, sc, top, E, e, C, h => by
    unfold mT at h
    rw [Bool.and_eq_true] at h
    replace h := h.2
    unfold mE at h
    split at h
    · rename_i l op rr pp
      simp only [Bool.and_eq_true] at h
      exact s_dinT C h.1.1.1 h.1.1.2 (sE0 i G X sc top E l C h.1.2) (sE0 x G X sc top E rr C h.2)
    · cases h
  | .val (.dgi x i), G, X, sc, top, E, e, C, h => sTv rfl h fun h2 => sE0 (.dgi x i) G X sc top E e C h2
  | .val (.dgt x i d), G, X, sc, top, E, e, C, h => sTv rfl h fun h2 => sE0 (.dgt x i d) G X sc top E e C h2
  | .val (.srk x), G, X, sc, top, E, e, C, h => sTv rfl h fun h2 => sE0 (.srk x) G X sc top E e C h2
  | .val (.lsk x), G, X, sc, top, E, e, C, h => sTv rfl h fun h2 => sE0 (.lsk x) G X sc top E e C h2
  | .val (.lns x), G, X, sc, top, E, e, C, h => sTv rfl h fun h2 => sE0 (.lns x) G X sc top E e C h2
  | .val (.dcl x), G, X, sc, top, E, e, C, h => sTv rfl h fun h2 => sE0 (.dcl x) G X sc top E e C h2
  | .val (.oln ms o), G, X, sc, top, E, e, C, h => sTv rfl h fun h2 => sE0 (.oln ms o) G X sc top E e C h2
  | .val (.iso c a), G, X, sc, top, E, e, C, h => sTv rfl h fun h2 => sE0 (.iso c a) G X sc top E e C h2
  | .val (.isi t a), G, X, sc, top, E, e, C, h => sTv rfl h fun h2 => sE0 (.isi t a) G X sc top E e C h2
  | .val (.cmp1 elt tg it own), G, X, sc, top, E, e, C, h => sTv rfl h fun h2 => sE0 (.cmp1 elt tg it own) G X sc top E e C h2
  | .val (.cmpc elt tg it c own), G, X, sc, top, E, e, C, h => sTv rfl h fun h2 => sE0 (.cmpc elt tg it c own) G X sc top E e C h2
  | .and a b, G, X, sc, top, E, e, C, h => by
    unfold mT at h
    split at h
    · rename_i l rr rest pp
      rw [Bool.and_eq_true] at h
      exact (andT_ok (sT0 a G X sc top E l C h.1) (by
        have h2 := h.2
        split at h2
        · exact pw_and1 (sT0 b G X sc top E rr C h2)
        · exact pw_of (sT0 b G X sc top E _ C h2))).pt
    · cases h
  | .or a b, G, X, sc, top, E, e, C, h => by
    unfold mT at h
    split at h
    · rename_i l rr rest pp
      rw [Bool.and_eq_true] at h
      exact (orT_ok (sT0 a G X sc top E l C h.1) (by
        have h2 := h.2
        split at h2
        · exact pw_or1 (sT0 b G X sc top E rr C h2)
        · exact pw_of (sT0 b G X sc top E _ C h2))).pt
    · cases h
  | .not a, G, X, sc, top, E, e, C, h => by
    unfold mT at h
    split at h
    · rename_i y pp
      refine PT.imp (pt_not (sT0 a G X sc top E y C h)) fun σ H Q q => ?_
      obtain ⟨S, e, h, r, re, hb⟩ := q
      unfold evT at hb
      refine stepT r re hb fun a S1 H1 x1 r1 re1 hb1 => ?_
      exact hb1 S1 H1 (Ext.refl S1 H1) r1
    · cases h
theorem sI0 : ∀ (x : Ix) (G : Nm) (X : Cx) (sc : Scope) (top : Bool) (E : XK) (tg e : PySem.Expr), Cok X N sc top E k G gc cl → mI G N x sc tg e = true → PI X tg e (tI X.K X.mg G gc cl E x)
  | .seq a, G, X, sc, top, E, tg, e, C, h => by
    unfold mI at h
    refine PI.imp (pi_any (sE0 a G X sc top E e C h)) fun σ H R q => ?_
    obtain ⟨S, e, h, r, re, hb⟩ := q
    unfold evI at hb
    refine stepE r re hb fun a S1 H1 v x1 r1 re1 ra hb1 => ?_
    split at hb1
    · rename_i d
      exact seq_ok r1 ra hb1
    · exact hb1.elim
  | .own i, G, X, sc, top, E, tg, e, C, h => by
    unfold mI at h
    split at h
    · rename_i x pp
      have hv : PE X (.Name x pp) (tE X.K X.mg G gc cl E (.var i)) := sE0 (.var i) G X sc top E (.Name x pp) C (by unfold mE; exact h)
      refine PI.imp (pi_any hv) fun σ H R q => ?_
      obtain ⟨S, e, h, r, re, hb⟩ := q
      unfold evI at hb
      refine ⟨S, e, h, r, re, ?_⟩
      unfold evE
      split at hb
      · rename_i n hn
        rw [hn]
        split at hb
        · rename_i xs hx
          intro S1 H1 x1 r1 v rv
          obtain ⟨a, ea, rfl⟩ := rv
          obtain ⟨b, eb, vs, hv, q⟩ := r1.obj n _ hx
          rw [ea] at eb; cases eb
          exact .inl ⟨a, rfl, ⟨vs, SqL.of hv⟩, hb S1 H1 x1 r1 _ (by
            have := it_own (K := X.K) (H := H1) ea hx
            exact ⟨fun i S2 H2 h2 eq => this.go i S2 H2 h2 (eq rfl), fun S2 H2 h2 eq => this.stop S2 H2 h2 (eq rfl), fun i S2 H2 h2 x H' eq => this.yld i S2 H2 h2 x H' (eq rfl)⟩)⟩
        · exact hb.elim
      · exact hb.elim
    · cases h
  | .enm a, G, X, sc, top, E, tg, e, C, h => by
    unfold mI at h
    split at h
    · split at h
      · rename_i x p1 y pp
        simp only [Bool.and_eq_true, decide_eq_true_eq] at h
        obtain ⟨⟨⟨h1, h2⟩, h3⟩, h4⟩ := h
        subst h1
        refine PI.imp (pi_enumT (C.gl h2) (C.free (by decide)) (pa_cons (sE0 a G X sc top E y C h4) pa_nil (star_cons h3)) (star_cons h3)) fun σ H R q => ?_
        obtain ⟨S, e, h, r, re, hb⟩ := q
        unfold evI at hb
        refine stepE r re hb fun a S1 H1 v x1 r1 re1 ra hb1 => ?_
        split at hb1
        · rename_i ds
          obtain ⟨p, vs, rfl, t, q⟩ := ra.tup r1 rfl
          exact .inl ⟨p, vs, rfl, t, hb1 S1 H1 (Ext.refl S1 H1) r1 _ (it_enm r1 t q)⟩
        · rename_i ds
          have ra : RV X.K S1 H1 (.lst ds) v := ra
          unfold RV at ra
          obtain ⟨p, vs, rfl, t, f, q⟩ := ra
          exact .inr (.inr ⟨p, vs, rfl, SqL.of t, hb1 S1 H1 (Ext.refl S1 H1) r1 _ (it_enmL r1 t f q)⟩)
        · rename_i s
          have ra : RV X.K S1 H1 (.str s) v := ra
          unfold RV at ra
          exact .inr (.inl ⟨_, by rw [ra], hb1 S1 H1 (Ext.refl S1 H1) r1 _ it_enmS⟩)
        · exact hb1.elim
      · cases h
    · cases h
  | .dky a, G, X, sc, top, E, tg, e, C, h => by
    unfold mI at h
    refine PI.imp (pi_xkeys (sE0 a G X sc top E e C h)) fun σ H R q => ?_
    obtain ⟨S, e, h, r, re, hb⟩ := q
    unfold evI at hb
    refine stepE r re hb fun a S1 H1 v x1 r1 re1 ra hb1 => ?_
    split at hb1
    · rename_i kvs
      have ra : RV X.K S1 H1 (.dct kvs) v := ra
      unfold RV at ra
      obtain ⟨p, o, es, vs, rfl, t, f, dk, rfl, q⟩ := ra
      exact ⟨p, o, es, rfl, by rw [← C.dx]; exact t, by
        have := hb1 S1 H1 (Ext.refl S1 H1) r1 _ (it_dky r1 t f dk q)
        rw [C.pw.1, C.pw.2]
        exact this⟩
    · exact hb1.elim
  | .zip a b, G, X, sc, top, E, tg, e, C, h => by
    unfold mI at h
    split at h
    · split at h
      · rename_i x p1 y z pp
        simp only [Bool.and_eq_true, decide_eq_true_eq] at h
        obtain ⟨⟨⟨⟨⟨h1, h2⟩, h3⟩, h4⟩, h5⟩, h6⟩ := h
        subst h1
        refine PI.imp (pi_zip (C.gl h2) (C.free (by decide)) (pa_cons (sE0 a G X sc top E y C h5) (pa_cons (sE0 b G X sc top E z C h6) pa_nil (star_cons h4)) (star_cons h3)) (star_cons h3) (by rw [star_cons h4]; rfl)) fun σ H R q => ?_
        obtain ⟨S, e, h, r, re, hb⟩ := q
        unfold evI at hb
        refine stepE r re hb fun a S1 H1 v x1 r1 re1 ra hb1 => stepE r1 re1 hb1 fun b S2 H2 w x2 r2 re2 rb hb2 => ?_
        split at hb2
        · rename_i ds es
          have ra : RV X.K S2 H2 (.lst ds) v := RV.ext r1 x2 _ v ra
          have rb : RV X.K S2 H2 (.lst es) w := rb
          unfold RV at ra rb
          obtain ⟨p, vs, rfl, t, f, q⟩ := ra
          obtain ⟨p2, ws, rfl, t2, f2, q2⟩ := rb
          exact ⟨p, p2, vs, ws, rfl, SqL.of t, SqL.of t2, hb2 S2 H2 (Ext.refl S2 H2) r2 _ (it_zip r2 t f q t2 f2 q2)⟩
        · exact hb2.elim
      · cases h
    · cases h
  | .rg1 a, G, X, sc, top, E, tg, e, C, h => by
    unfold mI at h
    split at h
    · rename_i x p1 y pp
      simp only [Bool.and_eq_true, decide_eq_true_eq] at h
      obtain ⟨⟨⟨h1, h2⟩, h3⟩, h4⟩ := h
      subst h1
      refine PI.imp (pi_range1 (C.gl h2) (C.free (by decide)) (pa_cons (sE0 a G X sc top E y C h4) pa_nil (star_cons h3)) (star_cons h3)) fun σ H R q => ?_
      obtain ⟨S, e, h, r, re, hb⟩ := q
      unfold evI at hb
      refine stepE r re hb fun a S1 H1 v x1 r1 re1 ra hb1 => ?_
      split at hb1
      · rename_i i
        have hv : v = .int i := by have := ra; unfold RW RV at this; exact this
        obtain ⟨hl, hb1⟩ := rng_ok hb1
        refine ⟨i, by rw [hv], by omega, by omega, hb1 S1 H1 (Ext.refl S1 H1) r1 _ ?_⟩
        have : (i - 0).toNat = i.toNat := by rw [Int.sub_zero]
        rw [this]
        exact it_rng
      · exact hb1.elim
    · cases h
  | .rg2 a b, G, X, sc, top, E, tg, e, C, h => by
    unfold mI at h
    split at h
    · rename_i x p1 y z pp
      simp only [Bool.and_eq_true, decide_eq_true_eq] at h
      obtain ⟨⟨⟨⟨⟨h1, h2⟩, h3⟩, h4⟩, h5⟩, h6⟩ := h
      subst h1
      refine PI.imp (pi_range2 (C.gl h2) (C.free (by decide)) (pa_cons (sE0 a G X sc top E y C h5) (pa_cons (sE0 b G X sc top E z C h6) pa_nil (star_cons h4)) (star_cons h3)) (by rw [star_cons h3, star_cons h4]; rfl) (by rw [star_cons h4]; rfl)) fun σ H R q => ?_
      obtain ⟨S, e, h, r, re, hb⟩ := q
      unfold evI at hb
      refine stepE r re hb fun a S1 H1 v x1 r1 re1 ra hb1 => stepE r1 re1 hb1 fun b S2 H2 w x2 r2 re2 rb hb2 => ?_
      split at hb2
      · rename_i i j
        have hv : v = .int i := by have := ra; unfold RW RV at this; exact this
        have hw : w = .int j := by have := rb; unfold RW RV at this; exact this
        obtain ⟨hl, hb2⟩ := rng_ok hb2
        exact ⟨i, j, by rw [hv, hw], ⟨by omega, by omega, by omega, by omega⟩, hb2 S2 H2 (Ext.refl S2 H2) r2 _ it_rng⟩
      · exact hb2.elim
    · cases h
  | .rg3 a b c, G, X, sc, top, E, tg, e, C, h => by
    unfold mI at h
    split at h
    · rename_i x p1 y z u pp
      simp only [Bool.and_eq_true, decide_eq_true_eq] at h
      obtain ⟨⟨⟨⟨⟨⟨⟨h1, h2⟩, h3⟩, h4⟩, h5⟩, h6⟩, h7⟩, h8⟩ := h
      subst h1
      refine PI.imp (pi_range3 (C.gl h2) (C.free (by decide)) (pa_cons (sE0 a G X sc top E y C h6) (pa_cons (sE0 b G X sc top E z C h7) (pa_cons (sE0 c G X sc top E u C h8) pa_nil (star_cons h5)) (star_cons h4)) (star_cons h3)) (by rw [star_cons h3, star_cons h4, star_cons h5]) (by rw [star_cons h4, star_cons h5]; rfl)) fun σ H R q => ?_
      obtain ⟨S, e, h, r, re, hb⟩ := q
      unfold evI at hb
      refine stepE r re hb fun a S1 H1 v x1 r1 re1 ra hb1 => stepE r1 re1 hb1 fun b S2 H2 w x2 r2 re2 rb hb2 => stepE r2 re2 hb2 fun c S3 H3 u' x3 r3 re3 rc hb3 => ?_
      split at hb3
      · rename_i i j kk
        have hv : v = .int i := by have := ra; unfold RW RV at this; exact this
        have hw : w = .int j := by have := rb; unfold RW RV at this; exact this
        have hu : u' = .int kk := by have := rc; unfold RW RV at this; exact this
        split at hb3
        · rename_i hk
          subst hk
          obtain ⟨hl, hb3⟩ := rngN_ok hb3
          exact ⟨i, j, -1, (i - j).toNat, by rw [hv, hw, hu], RgC.neg (by omega) (by omega) (by omega) (by omega), hb3 S3 H3 (Ext.refl S3 H3) r3 _ it_rngN⟩
        · exact hb3.elim
      · exact hb3.elim
    · cases h
end
theorem sE (x : Ex) (X : Cx) (sc : Scope) (top : Bool) (E : XK) (e : PySem.Expr) (C : Cok X N sc top E k G gc cl) (h : mE G N x sc e = true) : PE X e (tE X.K X.mg G gc cl E x) := sE0 x G X sc top E e C h
theorem sEs (x : Exs) (X : Cx) (sc : Scope) (top : Bool) (E : XK) (es : List PySem.Expr) (C : Cok X N sc top E k G gc cl) (h : mEs G N x sc es = true) : PA X es (tEsL X.K X.mg G gc cl E es.length x) := sEs0 x G X sc top E es C h
theorem sT (x : Tx) (X : Cx) (sc : Scope) (top : Bool) (E : XK) (e : PySem.Expr) (C : Cok X N sc top E k G gc cl) (h : mT G N x sc e = true) : PT X e (tT X.K X.mg G gc cl E x) := sT0 x G X sc top E e C h
theorem sI (x : Ix) (X : Cx) (sc : Scope) (top : Bool) (E : XK) (tg e : PySem.Expr) (C : Cok X N sc top E k G gc cl) (h : mI G N x sc tg e = true) : PI X tg e (tI X.K X.mg G gc cl E x) := sI0 x G X sc top E tg e C h
end
end Bk
namespace Bk
open PySem PySem.Spec PyProof.Rows L2
variable [MF] [PWc]
theorem BK.kbn {K : PySem.W.Frag} {fd : FuncData} {ps : List Str} (h : BK K fd ps) (hp : 1 ≤ ps.length) : KBn K fd ps 1 (ps.drop 1) (fun us ws => us ++ ws) (fun vs zs => vs ++ zs) :=
  ⟨fun s us ws X l1 l2 => by
    have := h s us ws X (by rw [List.length_append, l1, l2, List.length_drop]; omega)
    rw [l1] at this
    exact this, fun r1 r2 => r1.append r2⟩
theorem arg_some {kws : List Keyword} {l : List Str} (hn : kws.map (·.arg) = l.map some) : ∀ y ∈ kws, y.arg.isSome = true := fun y hy => by
  have : y.arg ∈ kws.map (·.arg) := List.mem_map_of_mem hy
  rw [hn] at this
  obtain ⟨z, _, e⟩ := List.mem_map.mp this
  rw [← e]; rfl
section
variable {X : Cx} {CX : CXT} {k : Nat} {f C : Addr} {fd : FuncData} {ps : List Str} {sp : Sp} {E : XK} {x : Str} {p pos apos : Pos} {kws : List Keyword} {tk : TA} {m : Str} {o : PySem.Expr} {ta : TE}
theorem pe_makeKS (M : Mk X.K C f) (F : FnOk X.prog X.w X.K X.mg X.base CX k f fd ps sp) (hr : Room (k + 1) X.A) (hg : Gl X x) (hm : X.mg x = some (.ref C)) (hb : BK X.K fd ps) (hp : 1 ≤ ps.length) (hx : Passes CX X E) (hkw : PK X kws tk)
    (hn : kws.map (·.arg) = (ps.drop 1).map some) (hdb : (x == ("__debug__" : Str)) = false) :
    PE X (.Call (.Name x p) [] kws pos) (tMakeK C 0 (ps.drop 1).length sp (fun vs zs => vs ++ zs) E tNil tk) := by
  obtain ⟨h1, h2, h3⟩ := kw_some (env := X.env) (pos := pos) (arg_some hn)
  have hks : (backToKw pos (keywordEach kws X.env)).filterMap (·.1) = ps.drop 1 := map_some_inj (h3.trans hn)
  exact pe_makeK0 M F hr hg hm (hb.kbn hp) hx hkw h1 hks hdb (by rw [h2]; rfl)
theorem meth_htK {env : Env} (hb : notCall o = true) (hl : (apos.endLine == pos.line) = true) (hs : ∀ y ∈ kws, y.arg.isSome = true) (hn : kws.length < 20) :
    eval (.Call (.Attribute o m apos) [] kws pos) env = (do
      let ov ← eval o env
      standAt apos.atName
      let (f, first) ← holding [ov] (getMethod ov m (do return (← importBound o env).getD true))
      callWith pos f first (backTo pos (starEach [] env)) (backToKw pos (keywordEach kws env))) := by
  have h1 : methodCallForm (([] : List PySem.Expr).length + kws.length) (backTo pos (starEach [] env)) (backToKw pos (keywordEach kws env)) = true := by
    have ha := (kw_some (env := env) (pos := pos) hs).1
    unfold methodCallForm
    rw [ha]
    have : (0 + kws.length + if (backToKw pos (keywordEach kws env)).isEmpty then 0 else 1) < 30 := by
      split <;> omega
    rw [show ([] : List PySem.Expr).length = 0 from rfl, decide_eq_true this]
    rfl
  rw [arm_eval_Call, attrBase hb]
  unfold methodCall
  rw [h1]
  unfold calleeOf methodCallPos
  rw [hl]
  rfl
def tMethK (C : Addr) (m : Str) (sp : Sp) (E : XK) (ta : TE) (tk : TA) : TE := fun σ H Q => ta σ H fun x H1 => ∃ a dx fs, x = .ref a ∧ H1 a = some (.ins C dx fs) ∧ fs.lookup m = none ∧ tk σ H1 fun zs H2 => sp (x :: zs) H2 Q E
theorem pe_methKS {pl : Sem Bool} (he : PE X o ta) (c : Cls X.K C) (hm : Meth X.K C m f) (F : FnOk X.prog X.w X.K X.mg X.base CX k f fd ps sp) (hb : BK X.K fd ps) (hr : Room k X.A) (hx : Passes CX X E) (hkw : PK X kws tk) (hn : kws.map (·.arg) = (ps.drop 1).map some)
    (ht : eval (.Call (.Attribute o m apos) [] kws pos) X.env = (do
      let ov ← eval o X.env
      standAt apos.atName
      let (f, first) ← holding [ov] (getMethod ov m pl)
      callWith pos f first (backTo pos (starEach [] X.env)) (backToKw pos (keywordEach kws X.env)))) :
    PE X (.Call (.Attribute o m apos) [] kws pos) (tMethK C m sp E ta tk) := by
  obtain ⟨h1, h2, h3⟩ := kw_some (env := X.env) (pos := pos) (arg_some hn)
  have hks : (backToKw pos (keywordEach kws X.env)).filterMap (·.1) = ps.drop 1 := map_some_inj (h3.trans hn)
  refine ⟨fun pins s σ H Q I h => ?_⟩
  refine PySem.W.methodCall_KW (pl := pl) (thn (he.run pins s σ H _ I h) fun u s1 ⟨x, H1, I1, rx, a, dx, fs, ex, ea, l, q⟩ => ?_) ht
  subst ex
  obtain rfl : u = Value.ref a := rx
  refine getmeth_ok I1 ea c hm l ?_
  refine PySem.W.callWith_KW0 (first := [.ref a]) (h₀ := X.base) I.ok.mod.kin hm.kp h1 (thn (hkw.run pos pins s1 σ H1 _ I1 q) fun ws s2 ⟨zs, H2, I2, rz, q2⟩ => ⟨I2.kIn, ?_⟩) (by rw [h2]; rfl)
  rw [hks]
  exact run_kws (us := [.ref a]) (vs := [.ref a]) F hr hb hx I2 (.cons rfl .nil) rz rfl q2
end
end Bk
namespace Bk
open PySem PySem.Spec PyProof.Rows L2
variable [MF] [PWc]
def isFnK (sc : Scope) : Bool := match sc.kind with
  | .function => true
  | _ => false
def isLoc (sc : Scope) (x : Str) : Bool := match sc.names.lookup x with
  | some .local => true
  | _ => false
def isCel (sc : Scope) (x : Str) : Bool := match sc.names.lookup x with
  | some .cell => true
  | _ => false
def swOk (sc : Scope) (x : Str) (p : Pos) (e : PySem.Expr) : Bool := match e with
  | .ListComp _ _ scope pos => isCel sc x || (isLoc sc x && (p.line == pos.line) && !(scope.names.any fun (n, k) => n == x && (k == .local || k == .cell)))
  | .SetComp .. => false
  | .DictComp .. => false
  | _ => true
def mWc (G : Nm) (N : List Str) (sc : Scope) (c f i : Nat) (es : Exs) (e : PySem.Expr) : Bool := match e with
  | .Call (.Attribute (.Name y p1) nm ap) [] (kw :: kws) cp => decide ((c, f) ∈ G.mw) && decide (f ∈ G.ks) && decide (G.fnm f = nm) && decide ((kw :: kws).map (·.arg) = ((G.fps f).drop 1).map some) && decide (nm ∉ clN c) && (ap.endLine == cp.line) && decide ((kw :: kws).length < 20) && mE G N (.var i) sc (.Name y p1) && mKs G N es sc (kw :: kws)
  | .Call (.Attribute (.Name y p1) nm ap) xs [] cp => decide ((c, f) ∈ G.mw) && decide (G.fnm f = nm) && decide ((G.fps f).length = xs.length + 1) && decide (nm ∉ clN c) && (ap.endLine == cp.line) && decide (xs.length < 20) && mE G N (.var i) sc (.Name y p1) && mEs G N es sc xs
  | _ => false
def mR (G : Nm) (N : List Str) (sc : Scope) : Rh → PySem.Expr → Bool
  | .ex x, e => mE G N x sc e
  | .new es, e => match e with
    | .List xs _ => mEs G N es sc xs
    | _ => false
  | .rep es n, e => match e with
    | .BinOp (.List xs _) .Mult m _ => mEs G N es sc xs && mE G N n sc m
    | _ => false
  | .ite c a b, e => match e with
    | .IfExp x y z _ => mT G N c sc x && mR G N sc a y && mR G N sc b z
    | _ => false
  | .mko f es, e => match e with
    | .Call (.Name x _) [] (kw :: kws) _ => decide (f ∈ G.mj) && decide (f ∈ G.ks) && decide (G.fnm f = x) && glb sc x && nodbg x && decide ((kw :: kws).map (·.arg) = ((G.fps f).drop 1).map some) && mKs G N es sc (kw :: kws)
    | .Call (.Name x _) (y :: xs) [] _ => decide (f ∈ G.mj) && decide (G.fnm f = x) && glb sc x && nodbg x && decide ((G.fps f).length = xs.length + 2) && mEs G N es sc (y :: xs)
    | _ => false
  | .wcl c f i es, e => mWc G N sc c f i es e
  | .rsw c f i es, e => match e with
    | .Call (.Name g _) [.Lambda ps bd lsc _] [] _ => G.rs && G.lm && decide (g = "_law_result") && glb sc g && noPar ps && LamX.lamSB sc lsc && mWc { G with lm := false } N lsc c f i es bd
    | _ => false
  | .bop o a b, e => match e with
    | .BinOp l op r _ => mBop o op && mR G N sc a l && mR G N sc b r
    | _ => false
  | .cmp o a b, e => match e with
    | .Compare l [op] [r] _ => mCop o op && notSet r && mR G N sc a l && mR G N sc b r
    | _ => false
  | .and a b, e => match e with
    | .BoolOp .And (l :: r :: rest) pos => mR G N sc a l && (match rest with
      | [] => mR G N sc b r
      | _ :: _ => mR G N sc b (.BoolOp .And (r :: rest) pos))
    | _ => false
  | .dnw, e => match e with
    | .Dict [] [] _ => true
    | _ => false
  | .dn1 k v, e => match e with
    | .Dict [some a] [b] _ => mE G N k sc a && mE G N v sc b
    | _ => false
  | .nwv, e => match e with
    | .List [.List [] _] _ => true
    | _ => false
def mTr (G : Nm) (N : List Str) (sc : Scope) : Tr → PySem.Expr → Bool
  | .pur t, e => mT G N t sc e
  | .cmp o a b, e => match e with
    | .Compare l [op] [r] _ => mCop o op && notSet r && mR G N sc a l && mR G N sc b r
    | _ => false
  | .and a b, e => match e with
    | .BoolOp .And (l :: r :: rest) pos => mTr G N sc a l && (match rest with
      | [] => mTr G N sc b r
      | _ :: _ => mTr G N sc b (.BoolOp .And (r :: rest) pos))
    | _ => false
  | .or a b, e => match e with
    | .BoolOp .Or (l :: r :: rest) pos => mTr G N sc a l && (match rest with
      | [] => mTr G N sc b r
      | _ :: _ => mTr G N sc b (.BoolOp .Or (r :: rest) pos))
    | _ => false
def swpOk (sc : Scope) (ts : List (Str × Pos)) (vs : List PySem.Expr) : Bool :=
  isFnK sc && (ts.all fun t => isLoc sc t.1 && (t.2.line == (ts.head?.map (·.2.line)).getD 0)) && vs.all notSt && !(vs.all (foldedForSure 8)) && !(vs.all (constantsAlone 8))
def swnOk (sc : Scope) (x y : Str) (a b : PySem.Expr) : Bool := loc1 sc true x && loc1 sc true y && notSt a && notSt b && (isCel sc x || isCel sc y)
def sw3Ok (sc : Scope) (x y z : Str) (a b c : PySem.Expr) : Bool := loc1 sc true x && loc1 sc true y && loc1 sc true z && notSt a && notSt b && notSt c && (isCel sc x || isCel sc y || isCel sc z)
def sw4Ok (sc : Scope) (x y z u : Str) (a b c d : PySem.Expr) : Bool := loc1 sc true x && loc1 sc true y && loc1 sc true z && loc1 sc true u && notSt a && notSt b && notSt c && notSt d
def isNm : PySem.Expr → Bool
  | .Name .. => true
  | _ => false
mutual
def mS (G : Nm) (N : List Str) (sc : Scope) : Sx → Stmt → Bool
  | .set tg x, st => match st with
    | .Assign [.Tuple ts k p] e _ => notTup e && notCmp e && mTg N sc true tg (.Tuple ts k p) && mE G N x sc e
    | _ => false
  | .put i r, st => match st with
    | .Assign [.Name x p] e _ => decide (N[i]? = some x) && loc1 sc true x && isFnK sc && swOk sc x p e && mR G N sc r e
    | _ => false
  | .par is rs, st => match st with
    | .Assign [.Tuple [.Name x px, .Name y py] _ _] (.Tuple [a, b] _ _) _ => match is, rs with
      | [i, j], [r, s] => decide (N[i]? = some x) && decide (N[j]? = some y) && decide (i ≠ j) && decide (x ≠ y) && (swpOk sc [(x, px), (y, py)] [a, b] || swnOk sc x y a b) && mR G N sc r a && mR G N sc s b
      | _, _ => false
    | .Assign [.Tuple [.Name x px, .Name y py, .Name z pz] _ _] (.Tuple [a, b, c] _ _) _ => match is, rs with
      | [i, j, l], [r, s, t] => decide (N[i]? = some x) && decide (N[j]? = some y) && decide (N[l]? = some z) && decide (i ≠ j) && decide (i ≠ l) && decide (j ≠ l) && decide (x ≠ y) && decide (x ≠ z) && decide (y ≠ z) && (swpOk sc [(x, px), (y, py), (z, pz)] [a, b, c] || sw3Ok sc x y z a b c) && mR G N sc r a && mR G N sc s b && mR G N sc t c
      | _, _ => false
    | .Assign [.Tuple [.Name x px, .Name y py, .Name z pz, .Name u pu] _ _] (.Tuple [a, b, c, d] _ _) _ => match is, rs with
      | [i, j, l, m], [r, s, t, q] => decide (N[i]? = some x) && decide (N[j]? = some y) && decide (N[l]? = some z) && decide (N[m]? = some u) && sw4Ok sc x y z u a b c d && mR G N sc r a && mR G N sc s b && mR G N sc t c && mR G N sc q d
      | _, _ => false
    | _ => false
  | .aug i o x, st => match st with
    | .AugAssign (.Name y _) .Add e _ => decide (N[i]? = some y) && loc1 sc true y && mE G N x sc e
    | _ => false
  | .app i x, st => match st with
    | .Expr (.Call (.Attribute (.Name y p1) m ap) [e] [] cp) _ => decide (m = "append") && (ap.endLine == cp.line) && notSt e && mE G N (.var i) sc (.Name y p1) && mE G N x sc e
    | _ => false
  | .ext i x, st => match st with
    | .Expr (.Call (.Attribute (.Name y p1) m ap) [e] [] cp) _ => decide (m = "extend") && (ap.endLine == cp.line) && notSt e && mE G N (.var i) sc (.Name y p1) && mE G N x sc e
    | _ => false
  | .sti i j x, st => match st with
    | .Assign [.Subscript (.Name y p1) k p2] e _ => notSlc k && notCmp e && mE G N (.var i) sc (.Name y p1) && mE G N j sc k && mE G N x sc e
    | _ => false
  | .ife c a b, st => match st with
    | .If t x y _ => mT G N c sc t && mSs G N sc a x && mSs G N sc b y
    | _ => false
  | .whl c b, st => match st with
    | .While t x [] _ => mT G N c sc t && mSs G N sc b x
    | _ => false
  | .for_ tg it b, st => match st with
    | .For t e x [] _ => notSet e && mTg N sc true tg t && mI G N it sc t e && mSs G N sc b x
    | _ => false
  | .forr tg i b, st => match st with
    | .For t e x [] _ => notSet e && mTg N sc true tg t && mE G N (.var i) sc e && mSs G N sc b x
    | _ => false
  | .ret x, st => match st with
    | .Return (some e) _ => mE G N x sc e
    | _ => false
  | .retn, st => match st with
    | .Return none _ => true
    | _ => false
  | .rai c, st => match st with
    | .Raise (some (.Call (.Name x _) [.Constant (.str _) _ _] [] _)) none _ => decide (c ∈ G.es) && decide (G.enm c = x) && glb sc x && nodbg x
    | _ => false
  | .exp x, st => match st with
    | .Expr e _ => notCmp e && mE G N x sc e
    | _ => false
  | .fse s f r, st => match st with
    | .Assign [.Attribute (.Name x p) nm _] e _ => decide (fln f = nm) && notCmp e && mE G N (.var s) sc (.Name x p) && mR G N sc r e
    | _ => false
  | .fmn c s j, st => match st with
    | .Assign [.Attribute (.Name x p) nm _] (.Dict [] [] _) _ => decide (tnm c j = nm) && mE G N (.var s) sc (.Name x p)
    | _ => false
  | .memo .., _ => false
  | .any, _ => false
  | .frz _, _ => false
  | .dst i k v, st => match st with
    | .Assign [.Subscript (.Name y p1) j p2] e _ => notSlc j && notCmp e && mE G N (.var i) sc (.Name y p1) && mE G N k sc j && mE G N v sc e
    | _ => false
  | .hap i x, st => match st with
    | .Expr (.Call (.Attribute (.Subscript (.Name y p1) (.Constant (.int 0) _ _) _) m ap) [e] [] cp) _ => decide (m = "append") && (ap.endLine == cp.line) && notSt e && mE G N (.var i) sc (.Name y p1) && mE G N x sc e
    | _ => false
  | .exr r, st => match st with
    | .Expr e _ => notCmp e && mR G N sc r e
    | _ => false
  | .rtr r, st => match st with
    | .Return (some e) _ => mR G N sc r e
    | _ => false
  | .ifr c a b, st => match st with
    | .If t x y _ => mTr G N sc c t && mSs G N sc a x && mSs G N sc b y
    | _ => false
  | .fap s f x, st => match st with
    | .Expr (.Call (.Attribute (.Attribute (.Name y p1) nm p2) m ap) [e] [] cp) _ => decide (m = "append") && decide (fln f = nm) && (ap.endLine == cp.line) && notSt e && mE G N (.var s) sc (.Name y p1) && mE G N x sc e
    | _ => false
  | .fpp s f, st => match st with
    | .Expr (.Call (.Attribute (.Attribute (.Name y p1) nm p2) m ap) [] [] cp) _ => decide (m = "pop") && decide (fln f = nm) && (ap.endLine == cp.line) && mE G N (.var s) sc (.Name y p1)
    | _ => false
  | .brk, st => match st with
    | .Break _ => true
    | _ => false
  | .cnt, st => match st with
    | .Continue _ => true
    | _ => false
def mSs (G : Nm) (N : List Str) (sc : Scope) : Ss → List Stmt → Bool
  | .nil, sts => match sts with
    | [] => true
    | _ => false
  | .cons (.memo c j s k1 k2 body val) ss, sts => match ss with
    | .nil => match sts with
      | [.If (.Compare (.Tuple [a1, b1] _ _) [.NotIn] [.Attribute o1 f1 _] _) bd [] _, .Return (some (.Subscript (.Attribute o3 f3 _) (.Tuple [a3, b3] _ _) _)) _] => match bd.getLast? with
        | some (.Assign [.Subscript (.Attribute o2 f2 _) (.Tuple [a2, b2] _ _) _] v _) => decide (f1 = tnm c j) && decide (f2 = tnm c j) && decide (f3 = tnm c j) &&
          isNm o1 && isNm o2 && isNm o3 && isNm a1 && isNm a2 && isNm a3 && isNm b1 && isNm b2 && isNm b3 &&
          mE G N (.var s) sc o1 && mE G N (.var s) sc o2 && mE G N (.var s) sc o3 && mE G N (.var k1) sc a1 && mE G N (.var k1) sc a2 && mE G N (.var k1) sc a3 && mE G N (.var k2) sc b1 && mE G N (.var k2) sc b2 && mE G N (.var k2) sc b3 && notCmp v && mE G N val sc v && mSs G N sc body bd.dropLast
        | _ => false
      | _ => false
    | .cons .. => false
  | .cons .any ss, _ => match ss with
    | .nil => true
    | .cons .. => false
  | .cons (.frz _) ss, sts => mSs G N sc ss sts
  | .cons s ss, sts => match sts with
    | t :: ts => mS G N sc s t && mSs G N sc ss ts
    | _ => false
end
theorem isFnK_ok {sc : Scope} (h : isFnK sc = true) : sc.kind = .function := by
  unfold isFnK at h
  split at h
  · assumption
  · cases h
theorem isLoc_ok {sc : Scope} {x : Str} (h : isLoc sc x = true) : sc.names.lookup x = some .local := by
  unfold isLoc at h
  split at h
  · assumption
  · cases h
theorem isCel_ok {sc : Scope} {x : Str} (h : isCel sc x = true) : sc.names.lookup x = some .cell := by
  unfold isCel at h
  split at h
  · assumption
  · cases h
theorem blockFn {env : Env} (h : env.scope.kind = .function) : env.blockKind = .function := by
  unfold Env.blockKind
  rw [h]; rfl
theorem notStd : ∀ {e : PySem.Expr}, notSt e = true → (match e with | .Starred .. => true | _ => false) = false := by
  intro e h
  cases e <;> first | rfl | (simp [notSt] at h)
theorem swapped_two {sc : Scope} {env : Env} {x y : Str} {px py pt pt2 : Pos} {kt k2 : Nat} {a b : PySem.Expr} (hs : env.scope = sc) (hxy : x ≠ y) (h : swpOk sc [(x, px), (y, py)] [a, b] = true) :
    swappedStores [.Tuple [.Name x px, .Name y py] kt pt] (.Tuple [a, b] k2 pt2) env = pure (some [x, y]) := by
  unfold swpOk at h
  simp only [Bool.and_eq_true, Bool.not_eq_true', List.all_cons, List.all_nil, Bool.and_true, List.head?_cons, Option.map_some, Option.getD_some] at h
  obtain ⟨⟨⟨⟨h1, ⟨hx, _⟩, hy, hl⟩, ha, hb⟩, hf⟩, hc⟩ := h
  have hk : env.blockKind = .function := blockFn (by rw [hs]; exact isFnK_ok h1)
  have kx : env.kindOf x = some .local := by
    show env.scope.names.lookup x = some .local
    rw [hs]; exact isLoc_ok hx
  have ky : env.kindOf y = some .local := by
    show env.scope.names.lookup y = some .local
    rw [hs]; exact isLoc_ok hy
  have e1 : py.line = px.line := by simpa using hl
  have na := notStd ha
  have nb := notStd hb
  have hyx : ¬ y = x := fun e => hxy e.symm
  have byx : (y == x) = false := beq_eq_false_iff_ne.mpr hyx
  unfold swappedStores
  simp [hk, kx, ky, e1, hf, hc, Expr.pos, List.eraseDups, List.eraseDupsBy, List.eraseDupsBy.loop, byx]
  intro hh
  rcases hh with hh | hh
  · cases a <;> first | (cases hh; done) | (simp [notSt] at ha)
  · cases b <;> first | (cases hh; done) | (simp [notSt] at hb)
theorem fm_two {α β : Type} {f : α → Option β} {a b : α} (h : f a = none ∨ f b = none) : ([a, b].filterMap f).length ≤ 1 := by
  cases ha : f a <;> cases hb : f b <;> simp [List.filterMap_cons, ha, hb] at h ⊢
theorem swapped_cell {sc : Scope} {env : Env} {x y : Str} {px py pt pt2 : Pos} {kt k2 : Nat} {a b : PySem.Expr} (hs : env.scope = sc) (h : (isCel sc x || isCel sc y) = true) :
    swappedStores [.Tuple [.Name x px, .Name y py] kt pt] (.Tuple [a, b] k2 pt2) env = pure none := by
  have hk : env.kindOf x = some .cell ∨ env.kindOf y = some .cell := by
    rcases Bool.or_eq_true_iff.mp h with h | h
    · exact .inl (by show env.scope.names.lookup x = some .cell; rw [hs]; exact isCel_ok h)
    · exact .inr (by show env.scope.names.lookup y = some .cell; rw [hs]; exact isCel_ok h)
  have key : ∀ n : List Str, n.length ≤ 1 → (n.length != 2 || n.eraseDups.length != n.length) = true := fun n hn => by
    have : (n.length != 2) = true := by simp; omega
    rw [this]
    rfl
  unfold swappedStores
  simp only [pure_bind]
  split
  · rfl
  · split
    · rfl
    · rw [if_pos]
      apply key
      refine fm_two ?_
      rcases hk with hk | hk
      · exact .inl (by simp [hk])
      · exact .inr (by simp [hk])
theorem fm_three {α β : Type} {f : α → Option β} {a b c : α} (h : f a = none ∨ f b = none ∨ f c = none) : ([a, b, c].filterMap f).length ≤ 2 := by
  cases ha : f a <;> cases hb : f b <;> cases hc : f c <;> simp [List.filterMap_cons, ha, hb, hc] at h ⊢
theorem swapped_cell3 {sc : Scope} {env : Env} {x y z : Str} {px py pz pt pt2 : Pos} {kt k2 : Nat} {a b c : PySem.Expr} (hs : env.scope = sc) (h : (isCel sc x || isCel sc y || isCel sc z) = true) :
    swappedStores [.Tuple [.Name x px, .Name y py, .Name z pz] kt pt] (.Tuple [a, b, c] k2 pt2) env = pure none := by
  have hk : env.kindOf x = some .cell ∨ env.kindOf y = some .cell ∨ env.kindOf z = some .cell := by
    rcases Bool.or_eq_true_iff.mp h with h | h
    · rcases Bool.or_eq_true_iff.mp h with h | h
      · exact .inl (by show env.scope.names.lookup x = some .cell; rw [hs]; exact isCel_ok h)
      · exact .inr (.inl (by show env.scope.names.lookup y = some .cell; rw [hs]; exact isCel_ok h))
    · exact .inr (.inr (by show env.scope.names.lookup z = some .cell; rw [hs]; exact isCel_ok h))
  have key : ∀ n : List Str, n.length ≤ 2 → (n.length != 3 || n.eraseDups.length != n.length) = true := fun n hn => by
    have : (n.length != 3) = true := by simp; omega
    rw [this]
    rfl
  unfold swappedStores
  simp only [pure_bind]
  split
  · rfl
  · split
    · rfl
    · rw [if_pos]
      apply key
      refine fm_three ?_
      rcases hk with hk | hk | hk
      · exact .inl (by simp [hk])
      · exact .inr (.inl (by simp [hk]))
      · exact .inr (.inr (by simp [hk]))
theorem swapped_four {env : Env} {x y z u : Str} {px py pz pu pt pt2 : Pos} {kt k2 : Nat} {a b c d : PySem.Expr} : swappedStores [.Tuple [.Name x px, .Name y py, .Name z pz, .Name u pu] kt pt] (.Tuple [a, b, c, d] k2 pt2) env = pure none := by
  unfold swappedStores
  simp
theorem swapped_three {sc : Scope} {env : Env} {x y z : Str} {px py pz pt pt2 : Pos} {kt k2 : Nat} {a b c : PySem.Expr} (hs : env.scope = sc) (hxy : x ≠ y) (hxz : x ≠ z) (hyz : y ≠ z) (h : swpOk sc [(x, px), (y, py), (z, pz)] [a, b, c] = true) :
    swappedStores [.Tuple [.Name x px, .Name y py, .Name z pz] kt pt] (.Tuple [a, b, c] k2 pt2) env = pure (some [x, y, z]) := by
  unfold swpOk at h
  simp only [Bool.and_eq_true, Bool.not_eq_true', List.all_cons, List.all_nil, Bool.and_true, List.head?_cons, Option.map_some, Option.getD_some] at h
  obtain ⟨⟨⟨⟨h1, ⟨hx, _⟩, ⟨hy, hl⟩, hz, hl2⟩, ha, hb, hc'⟩, hf⟩, hc⟩ := h
  have hk : env.blockKind = .function := blockFn (by rw [hs]; exact isFnK_ok h1)
  have kx : env.kindOf x = some .local := by
    show env.scope.names.lookup x = some .local
    rw [hs]; exact isLoc_ok hx
  have ky : env.kindOf y = some .local := by
    show env.scope.names.lookup y = some .local
    rw [hs]; exact isLoc_ok hy
  have kz : env.kindOf z = some .local := by
    show env.scope.names.lookup z = some .local
    rw [hs]; exact isLoc_ok hz
  have e1 : py.line = px.line := by simpa using hl
  have e2 : pz.line = px.line := by simpa using hl2
  have na := notStd ha
  have nb := notStd hb
  have nc := notStd hc'
  have hyx : ¬ y = x := fun e => hxy e.symm
  have hzx : ¬ z = x := fun e => hxz e.symm
  have hzy : ¬ z = y := fun e => hyz e.symm
  have byx : (y == x) = false := beq_eq_false_iff_ne.mpr hyx
  have bzx : (z == x) = false := beq_eq_false_iff_ne.mpr hzx
  have bzy : (z == y) = false := beq_eq_false_iff_ne.mpr hzy
  unfold swappedStores
  simp [hk, kx, ky, kz, e1, e2, hf, hc, Expr.pos, List.eraseDups, List.eraseDupsBy, List.eraseDupsBy.loop, byx, bzx, bzy]
  intro hh
  rcases hh with hh | hh | hh
  · cases a <;> first | (cases hh; done) | (simp [notSt] at ha)
  · cases b <;> first | (cases hh; done) | (simp [notSt] at hb)
  · cases c <;> first | (cases hh; done) | (simp [notSt] at hc')
theorem sw_cell {elt : PySem.Expr} {gs : List Comprehension} {scope : Scope} {pos py : Pos} {y : Str} {l : Nat} {env : Env} (hy : env.scope.names.lookup y = some .cell) : swapsWith (.ListComp elt gs scope pos) (some (.Name y py)) l env = pure false := by
  have ky : env.kindOf y = some .cell := hy
  unfold swapsWith
  simp [ky]
  rw [show (NameKind.cell == NameKind.local) = false from rfl, Bool.and_false, Bool.false_and, Bool.false_and]
end Bk
namespace Bk
open PySem PySem.Spec PyProof.Rows L2
variable [MF] [PWc]
theorem PS.imp {X : Cx} {st : Stmt} {t t' : TS} (p : PS X st t) (h : ∀ D σ H, t' D σ H → t D σ H) : PS X st t' := ⟨fun pins s σ H D I q => p.run pins s σ H D I (h D σ H q)⟩
theorem PSs.imp {X : Cx} {st : List Stmt} {t t' : TS} (p : PSs X st t) (h : ∀ D σ H, t' D σ H → t D σ H) : PSs X st t' := ⟨fun pins s σ H D I q => p.run pins s σ H D I (h D σ H q)⟩
def PoS (K : PySem.W.Frag) (mg : Str → Option Value) (G : Nm) (S : Sg) (H : Hp) (D : Ends) (E : XK) : Fl → Prop
  | .nx e h => ∀ S' σ' H', Ext S H S' H' → RelH K S' H' h → RelE K S' H' e σ' → D.nx σ' H'
  | .rt v h => ∀ S' w H', Ext S H S' H' → RelH K S' H' h → RW K S' H' v w → D.rt w H'
  | .bk e h => ∀ S' σ' H', Ext S H S' H' → RelH K S' H' h → RelE K S' H' e σ' → D.bk σ' H'
  | .ct e h => ∀ S' σ' H', Ext S H S' H' → RelH K S' H' h → RelE K S' H' e σ' → D.ct σ' H'
  | .ex c => ∀ S' H' h', Ext S H S' H' → RelH K S' H' h' → exE mg G E c H'
theorem PoS.up {K : PySem.W.Frag} {mg : Str → Option Value} {G : Nm} {S S1 : Sg} {H H1 : Hp} {D : Ends} {E : XK} (x : Ext S H S1 H1) : ∀ r : Fl, PoS K mg G S H D E r → PoS K mg G S1 H1 D E r
  | .nx e h, p => fun S' σ' H' x' => p S' σ' H' (x.trans x')
  | .rt v h, p => fun S' w H' x' => p S' w H' (x.trans x')
  | .bk e h, p => fun S' σ' H' x' => p S' σ' H' (x.trans x')
  | .ct e h, p => fun S' σ' H' x' => p S' σ' H' (x.trans x')
  | .ex c, p => fun S' H' h' x' => p S' H' h' (x.trans x')
section
variable (K : PySem.W.Frag) (mg : Str → Option Value) (G : Nm) (gc : Gc) (cl : Cl) (wn : Nat) (E : XK)
def tS (s : Sx) : TS := fun D σ H => ∃ S e h, RelH K S H h ∧ RelE K S H e σ ∧ (exS gc cl wn s e h).All (PoS K mg G S H D E)
def tSs (s : Ss) : TS := fun D σ H => ∃ S e h, RelH K S H h ∧ RelE K S H e σ ∧ (exSs gc cl wn s e h).All (PoS K mg G S H D E)
def tR (r : Rh) : TE := fun σ H Q => ∃ S e h, RelH K S H h ∧ RelE K S H e σ ∧ (evR gc cl r e h).All (fun q => match q with
  | .ok p => ∀ S' w H', Ext S H S' H' → RelH K S' H' p.2 → RW K S' H' p.1 w → Q w H'
  | .ex c => ∀ S' H' h', Ext S H S' H' → RelH K S' H' h' → exE mg G E c H')
end
section
variable {K : PySem.W.Frag} {mg : Str → Option Value} {G : Nm} {gc : Gc} {cl : Cl} {wn : Nat} {E : XK} {S : Sg} {H : Hp} {h : Hq} {e : En} {σ : L2.St}
theorem onE_all {α : Type} {m : M α} {f : α → F Fl} {P : Fl → Prop} (hb : (onE m f).All P) : m.All fun r => match r with
    | .ok a => (f a).All P
    | .ex c => P (.ex c) := by
  refine F.All.imp (fun r p => ?_) (F.All_bind.mp hb)
  cases r with
  | ok a => exact p
  | ex c => exact p
theorem onS {x : Ex} {f : Vv → F Fl} {D : Ends} {R : VK} (r : RelH K S H h) (re : RelE K S H e σ) (hb : (onE (evE gc cl x e h) f).All (PoS K mg G S H D E))
    (k : ∀ a S1 H1 v, Ext S H S1 H1 → RelH K S1 H1 h → RelE K S1 H1 e σ → RW K S1 H1 a v → (f a).All (PoS K mg G S1 H1 D E) → R v H1) : tE K mg G gc cl E x σ H R := by
  refine ⟨S, e, h, r, re, F.All.imp (fun y p => ?_) (onE_all hb)⟩
  cases y with
  | ok a => exact fun S' H' x' r' v rv => k a S' H' v x' r' (re.ext r x') rv (F.All.imp (fun z pz => pz.up x' z) p)
  | ex c => exact fun S' H' x' r' => p S' H' h x' r'
theorem onST {x : Tx} {f : Bool → F Fl} {D : Ends} {R : Bool → Hp → Prop} (r : RelH K S H h) (re : RelE K S H e σ) (hb : (onE (evT gc cl x e h) f).All (PoS K mg G S H D E))
    (k : ∀ a S1 H1, Ext S H S1 H1 → RelH K S1 H1 h → RelE K S1 H1 e σ → (f a).All (PoS K mg G S1 H1 D E) → R a H1) : tT K mg G gc cl E x σ H R := by
  refine ⟨S, e, h, r, re, F.All.imp (fun y p => ?_) (onE_all hb)⟩
  cases y with
  | ok a => exact fun S' H' x' r' => k a S' H' x' r' (re.ext r x') (F.All.imp (fun z pz => pz.up x' z) p)
  | ex c => exact fun S' H' x' r' => p S' H' h x' r'
theorem onSI {x : Ix} {f : List D → F Fl} {D : Ends} {R : It → Hp → Prop} (r : RelH K S H h) (re : RelE K S H e σ) (hb : (onE (evI gc cl x e h) f).All (PoS K mg G S H D E))
    (k : ∀ a S1 H1 J, Ext S H S1 H1 → RelH K S1 H1 h → RelE K S1 H1 e σ → ItOk K S1 H1 (hqI x h) J a → (f a).All (PoS K mg G S1 H1 D E) → R J H1) : tI K mg G gc cl E x σ H R := by
  refine ⟨S, e, h, r, re, F.All.imp (fun y p => ?_) (onE_all hb)⟩
  cases y with
  | ok a => exact fun S' H' x' r' J it => k a S' H' J x' r' (re.ext r x') it (F.All.imp (fun z pz => pz.up x' z) p)
  | ex c => exact fun S' H' x' r' => p S' H' h x' r'
theorem onSR {x : Rh} {f : Vv × Hq → F Fl} {D : Ends} {R : VK} (r : RelH K S H h) (re : RelE K S H e σ) (hb : (onE (evR gc cl x e h) f).All (PoS K mg G S H D E))
    (k : ∀ a S1 H1 v, Ext S H S1 H1 → RelH K S1 H1 a.2 → RelE K S1 H1 e σ → RW K S1 H1 a.1 v → (f a).All (PoS K mg G S1 H1 D E) → R v H1) : tR K mg G gc cl E x σ H R := by
  refine ⟨S, e, h, r, re, F.All.imp (fun y p => ?_) (onE_all hb)⟩
  cases y with
  | ok a => exact fun S' v H' x' r' rv => k a S' H' v x' r' (re.ext r x') rv (F.All.imp (fun z pz => pz.up x' z) p)
  | ex c => exact p
theorem loop_all {m : F Fl} {f : En → Hq → F Fl} {P : Fl → Prop} (hb : (m.bind fun r => match r with
      | .nx e2 h2 => f e2 h2
      | .ct e2 h2 => f e2 h2
      | .bk e2 h2 => .ret (.nx e2 h2)
      | .rt v h2 => .ret (.rt v h2)
      | .ex c => .ret (.ex c)).All P) : m.All fun r => match r with
    | .nx e2 h2 => (f e2 h2).All P
    | .ct e2 h2 => (f e2 h2).All P
    | .bk e2 h2 => P (.nx e2 h2)
    | .rt v h2 => P (.rt v h2)
    | .ex c => P (.ex c) := by
  refine F.All.imp (fun r p => ?_) (F.All_bind.mp hb)
  cases r <;> exact p
theorem body_po {D : Ends} {f : En → Hq → F Fl} {Nx : L2.St → Hp → Prop} (hN : ∀ e2 h2 S' σ' H', Ext S H S' H' → RelH K S' H' h2 → RelE K S' H' e2 σ' → (f e2 h2).All (PoS K mg G S' H' D E) → Nx σ' H') :
    ∀ r : Fl, (match r with
      | .nx e2 h2 => (f e2 h2).All (PoS K mg G S H D E)
      | .ct e2 h2 => (f e2 h2).All (PoS K mg G S H D E)
      | .bk e2 h2 => PoS K mg G S H D E (.nx e2 h2)
      | .rt v h2 => PoS K mg G S H D E (.rt v h2)
      | .ex c => PoS K mg G S H D E (.ex c)) → PoS K mg G S H { D with nx := Nx, ct := Nx, bk := D.nx } E r
  | .nx e2 h2, p => fun S' σ' H' x' r' re' => hN e2 h2 S' σ' H' x' r' re' (F.All.imp (fun z pz => pz.up x' z) p)
  | .ct e2 h2, p => fun S' σ' H' x' r' re' => hN e2 h2 S' σ' H' x' r' re' (F.All.imp (fun z pz => pz.up x' z) p)
  | .bk e2 h2, p => p
  | .rt v h2, p => p
  | .ex c, p => p
theorem whl_ok {c : Tx} {b : Ss} {D : Ends} (r : RelH K S H h) (re : RelE K S H e σ) (n : Nat) (hb : (whlL (fun e h => evT gc cl c e h) (fun e h => exSs gc cl wn b e h) n e h).All (PoS K mg G S H D E)) :
    tWhile (tT K mg G gc cl E c) (tSs K mg G gc cl wn E b) D σ H := by
  refine ⟨fun m σ1 H1 => ∃ S1 e1 h1, RelH K S1 H1 h1 ∧ RelE K S1 H1 e1 σ1 ∧ (whlL (fun e h => evT gc cl c e h) (fun e h => exSs gc cl wn b e h) m e1 h1).All (PoS K mg G S1 H1 D E), ⟨n, S, e, h, r, re, hb⟩, ?_⟩
  rintro m σ1 H1 ⟨S1, e1, h1, r1, re1, hb1⟩
  cases m with
  | zero => exact hb1.elim
  | succ m =>
    unfold whlL at hb1
    refine onST r1 re1 hb1 fun k S2 H2 x2 r2 re2 hb2 => ?_
    cases k with
    | false => exact iteF (hb2 S2 σ1 H2 (Ext.refl _ _) r2 re2)
    | true =>
      refine iteT ⟨fun σ' H' => ∃ S' e' h', RelH K S' H' h' ∧ RelE K S' H' e' σ' ∧ (whlL (fun e h => evT gc cl c e h) (fun e h => exSs gc cl wn b e h) m e' h').All (PoS K mg G S' H' D E), fun σ' H' w => ⟨m, Nat.lt_succ_self _, w⟩, ?_⟩
      exact ⟨S2, e1, h1, r2, re2, F.All.imp (body_po fun e2 h2 S' σ' H' x' r' re' p => ⟨S', e2, h2, r', re', p⟩) (loop_all hb2)⟩
theorem for_ok {J : It} {xs : List D} {tg : Tg} {b : Ss} {D : Ends} (r : RelH K S H h) (re : RelE K S H e σ) (it : ItOk K S H (fun _ => True) J xs) (hb : (forL tg (fun e h => exSs gc cl wn b e h) xs e h).All (PoS K mg G S H D E)) :
    ∃ W : Nat → Nat → L2.St → Hp → Prop, (∃ m, W 0 m σ H) ∧ ∀ i m σ H, W i m σ H →
      (J.stop i H ∧ D.nx σ H) ∨ (J.go i H ∧ ∃ N : L2.St → Hp → Prop, (∀ σ' H', N σ' H' → ∃ m', m' < m ∧ W (i + 1) m' σ' H') ∧ ∀ x H', J.yld i H x H' → gT K tg x σ H' fun σ2 H2 => tSs K mg G gc cl wn E b { D with nx := N, ct := N, bk := D.nx } σ2 H2) := by
  refine ⟨fun i m σ1 H1 => m = xs.length - i ∧ i ≤ xs.length ∧ ∃ S1 e1 h1, Ext S H S1 H1 ∧ RelH K S1 H1 h1 ∧ RelE K S1 H1 e1 σ1 ∧ (forL tg (fun e h => exSs gc cl wn b e h) (xs.drop i) e1 h1).All (PoS K mg G S1 H1 D E),
    ⟨xs.length, by omega, Nat.zero_le _, S, e, h, Ext.refl _ _, r, re, by rw [List.drop_zero]; exact hb⟩, ?_⟩
  rintro i m σ1 H1 ⟨rfl, hi, S1, e1, h1, x1, r1, re1, hb1⟩
  by_cases hlt : i < xs.length
  · refine .inr ⟨it.go i S1 H1 h1 trivial x1 r1 hlt, fun σ' H' => ∃ S' e' h', Ext S H S' H' ∧ RelH K S' H' h' ∧ RelE K S' H' e' σ' ∧ (forL tg (fun e h => exSs gc cl wn b e h) (xs.drop (i + 1)) e' h').All (PoS K mg G S' H' D E), fun σ' H' w => ⟨xs.length - (i + 1), by omega, rfl, hlt, w⟩, fun x H' y => ?_⟩
    obtain ⟨xy, ry, d, ed, rv⟩ := it.yld i S1 H1 h1 x H' trivial x1 r1 hlt y
    replace re1 := re1.ext r1 xy
    replace x1 := x1.trans xy
    replace hb1 := F.All.imp (fun z (pz : PoS K mg G S1 H1 D E z) => PoS.up xy z pz) hb1
    replace r1 := ry
    have edr : xs.drop i = d :: xs.drop (i + 1) := by
      rw [List.drop_eq_getElem_cons hlt]
      congr 1
      rw [List.getElem?_eq_getElem hlt] at ed
      exact Option.some.inj ed
    rw [edr] at hb1
    unfold forL at hb1
    split at hb1
    · rename_i e2 ea
      refine ⟨S1, e1, h1, d, e2, r1, re1, rv, ea, fun σ2 re2 _ => ⟨S1, e2, h1, r1, re2, F.All.imp (body_po fun e3 h3 S' σ' H' x' r' re' p => ⟨S', e3, h3, x1.trans x', r', re', p⟩) (loop_all hb1)⟩⟩
    · exact hb1.elim
  · have hi2 : i = xs.length := by omega
    subst hi2
    rw [List.drop_length] at hb1
    exact .inl ⟨it.stop S1 H1 h1 trivial x1 r1, hb1 S1 σ1 H1 (Ext.refl _ _) r1 re1⟩
theorem forr_ok {n : Nat} {a : Addr} {ys : List D} {tg : Tg} {b : Ss} {D : Ends} (r : RelH K S H h) (re : RelE K S H e σ) (ea : S.as[n]? = some a) (hb : (forR tg n (fun e h => exSs gc cl wn b e h) ys.length 0 e h).All (PoS K mg G S H D E)) :
    ∃ W : Nat → Nat → L2.St → Hp → Prop, (∃ m, W 0 m σ H) ∧ ∀ i m σ H, W i m σ H →
      ((Itl K a).stop i H ∧ D.nx σ H) ∨ ((Itl K a).go i H ∧ ∃ N : L2.St → Hp → Prop, (∀ σ' H', N σ' H' → ∃ m', m' < m ∧ W (i + 1) m' σ' H') ∧ ∀ x H', (Itl K a).yld i H x H' → gT K tg x σ H' fun σ2 H2 => tSs K mg G gc cl wn E b { D with nx := N, ct := N, bk := D.nx } σ2 H2) := by
  refine ⟨fun i m σ1 H1 => ∃ S1 e1 h1, Ext S H S1 H1 ∧ RelH K S1 H1 h1 ∧ RelE K S1 H1 e1 σ1 ∧ (forR tg n (fun e h => exSs gc cl wn b e h) m i e1 h1).All (PoS K mg G S1 H1 D E),
    ⟨ys.length, S, e, h, Ext.refl _ _, r, re, hb⟩, ?_⟩
  rintro i m σ1 H1 ⟨S1, e1, h1, x1, r1, re1, hb1⟩
  have at_ : ∀ zs, h1[n]? = some (.lst zs) → ∃ vs, H1 a = some (.lst vs) ∧ RVs K S1 H1 zs vs := fun zs hz => by
    obtain ⟨b, eb, vs, hv, q⟩ := r1.obj n _ hz
    obtain ⟨ns, e2⟩ := x1.as
    rw [e2, List.getElem?_append_left (List.getElem?_eq_some_iff.mp ea).1, ea] at eb
    cases eb
    exact ⟨vs, hv, q⟩
  cases m with
  | zero =>
    unfold forR at hb1
    split at hb1
    · rename_i zs hz
      obtain ⟨vs, hv, q⟩ := at_ zs hz
      split at hb1
      · rename_i hl
        have hl : zs.length = i := Nat.eq_of_beq_eq_true hl
        exact .inl ⟨⟨vs, SqL.of hv, by rw [q.length, hl]; exact Nat.le_refl _⟩, hb1 S1 σ1 H1 (Ext.refl _ _) r1 re1⟩
      · exact hb1.elim
    · exact hb1.elim
  | succ m =>
    unfold forR at hb1
    split at hb1
    · rename_i zs hz
      obtain ⟨vs, hv, q⟩ := at_ zs hz
      split at hb1
      · rename_i d hd
        obtain ⟨w, ew, rw1⟩ := q.get hd
        refine .inr ⟨⟨vs, w, SqL.of hv, ew⟩, fun σ' H' => ∃ S' e' h', Ext S H S' H' ∧ RelH K S' H' h' ∧ RelE K S' H' e' σ' ∧ (forR tg n (fun e h => exSs gc cl wn b e h) m (i + 1) e' h').All (PoS K mg G S' H' D E), fun σ' H' w => ⟨m, Nat.lt_succ_self _, w⟩, fun x H' y => ?_⟩
        obtain ⟨rfl, y⟩ := y
        have exw : x = w := by
          have := y vs (SqL.of hv)
          rw [ew] at this
          exact (Option.some.inj this).symm
        subst exw
        split at hb1
        · rename_i e2 eaa
          exact ⟨S1, e1, h1, d, e2, r1, re1, rw1, eaa, fun σ2 re2 _ => ⟨S1, e2, h1, r1, re2, F.All.imp (body_po fun e3 h3 S' σ' H' x' r' re' p => ⟨S', e3, h3, x1.trans x', r', re', p⟩) (loop_all hb1)⟩⟩
        · exact hb1.elim
      · exact hb1.elim
    · exact hb1.elim
end
def PoW (K : PySem.W.Frag) (mg : Str → Option Value) (G : Nm) (S : Sg) (H : Hp) (h : Hq) (Q : VK) (E : XK) : Rx (Vv × Hq) → Prop
  | .ok p => ∀ S' w H', Ext S H S' H' → RelH K S' H' p.2 → RW K S' H' p.1 w → Q w H'
  | .ex c => ∀ S' H', Ext S H S' H' → RelH K S' H' h → exE mg G E c H'
def tW (K : PySem.W.Frag) (mg : Str → Option Value) (G : Nm) (gc : Gc) (cl : Cl) (E : XK) (c f i : Nat) (es : Exs) : TE := fun σ H Q => ∃ S e h, RelH K S H h ∧ RelE K S H e σ ∧ (callW gc cl c f i es e h).All (PoW K mg G S H h Q E)
section
variable {k : Nat} {G : Nm} {gc : Gc} {cl : Cl} {N : List Str} {X : Cx} {sc : Scope} {top : Bool} {E : XK}
theorem RWs.consW {K : PySem.W.Frag} {S : Sg} {H : Hp} {a : Vv} {v : V} {vs : List Vv} {ws : List V} (ra : RW K S H a v) (r : RWs K S H vs ws) : RWs K S H (a :: vs) (v :: ws) := ⟨v, ws, rfl, ra, r⟩
theorem s_wc (C : Cok X N sc top E k G gc cl) {c f i : Nat} {es : Exs} {e : PySem.Expr} (h : mWc G N sc c f i es e = true) : PE X e (tW X.K X.mg G gc cl E c f i es) := by
  unfold mWc at h
  split at h
  · rename_i y p1 nm ap kw kws cp
    simp only [Bool.and_eq_true, decide_eq_true_eq] at h
    obtain ⟨⟨⟨⟨⟨⟨⟨⟨h1, hk⟩, h2⟩, h3⟩, h4⟩, h5⟩, h6⟩, h7⟩, h8⟩ := h
    obtain ⟨fa, fd, m1, m2, m3, m5, m4⟩ := C.W.mew (c, f) h1
    have m1 : ClsK X.K c := m1
    have m2 : Meth X.K (He.ga X.K (cnm c)) (G.fnm f) fa := m2
    rw [h2] at m2
    have hb : BK X.K fd (G.fps f) := m5 hk
    have hlen : (G.fps f).length = (kw :: kws).length + 1 := by
      have := congrArg List.length h3
      rw [List.length_map, List.length_map, List.length_drop] at this
      rw [List.length_cons] at this ⊢
      omega
    have ht := meth_htK (m := nm) (env := X.env) (o := .Name y p1) (apos := ap) (pos := cp) rfl h5 (arg_some h3) h6
    have po : PE X (.Name y p1) (tE X.K X.mg G gc cl E (.var i)) := sE (.var i) X sc top E _ C h7
    have pk : PK X (kw :: kws) (tEsL X.K X.mg G gc cl E (kw :: kws).length es) := sKs0 es G X sc top E (kw :: kws) C h8
    refine PE.imp (pe_methKS (pl := _) po m1.1 m2 m4 hb (C.room.mono (by omega)) C.pass pk h3 ht) fun σ H Q q => ?_
    obtain ⟨S, e, h, r, re, hb⟩ := q
    unfold callW at hb
    split at hb
    · rename_i n hn
      split at hb
      · rename_i c' hc
        split at hb
        · rename_i hcc
          have hcc := Nat.eq_of_beq_eq_true hcc
          subst hcc
          refine ⟨S, e, h, r, re, ?_⟩
          unfold evE
          rw [hn]
          intro S1 H1 x1 r1 v rv
          obtain ⟨p, dx, fl, rfl, hi, hcl, hno⟩ := RW.ins r1 rv hc
          refine ⟨p, dx, fl, rfl, hi, hno _ h4, ?_⟩
          refine ⟨S1, e, h, r1, re.ext r x1, F.All.imp (fun y py => ?_) (bnd_all hb)⟩
          cases y with
          | ex cn => exact fun S' H' x' r' => py S' H' (x1.trans x') r'
          | ok vs =>
            intro S2 H2 x2 r2 ws rws hl
            refine ⟨by rw [List.length_cons, hl, hlen], S2, h, .r n :: vs, r2, RWs.consW (RW.ext r1 x2 _ _ rv) rws, F.All.imp (fun z pz => ?_) (bnd_all py)⟩
            cases z with
            | ok d =>
              intro p0 hp S3 w H3 x3 r3 rw3
              have pz : (match decR d with | some p => ok p | none => .stk : M (Vv × Hq)).All (PoW X.K X.mg G S H h Q E) := pz
              rw [hp] at pz
              exact pz S3 w H3 ((x1.trans x2).trans x3) r3 rw3
            | ex cn => exact fun S' H' x' r' => pz S' H' ((x1.trans x2).trans x') r'
        · exact hb.elim
      · exact hb.elim
    · exact hb.elim
  · rename_i y p1 nm ap xs cp
    simp only [Bool.and_eq_true, decide_eq_true_eq] at h
    obtain ⟨⟨⟨⟨⟨⟨⟨h1, h2⟩, h3⟩, h4⟩, h5⟩, h6⟩, h7⟩, h8⟩ := h
    obtain ⟨fa, fd, m1, m2, m3, _, m4⟩ := C.W.mew (c, f) h1
    have m1 : ClsK X.K c := m1
    have m2 : Meth X.K (He.ga X.K (cnm c)) (G.fnm f) fa := m2
    rw [h2] at m2
    have hst := mEs_st es xs h8
    have ht := meth_ht (m := nm) (env := X.env) (o := .Name y p1) rfl h5 hst h6
    have po : PE X (.Name y p1) (tE X.K X.mg G gc cl E (.var i)) := sE (.var i) X sc top E _ C h7
    have pa : PA X xs (tEsL X.K X.mg G gc cl E xs.length es) := sEs es X sc top E xs C h8
    have fin : ∀ (t : TA), (∀ σ H Q, tEsL X.K X.mg G gc cl E xs.length es σ H Q → t σ H Q) → ∀ σ H Q, tW X.K X.mg G gc cl E c f i es σ H Q → tMethD (fun _ : Unit => True) (fun _ => He.ga X.K (cnm c)) nm (fun _ => spM X.K X.mg G cl f) E (tE X.K X.mg G gc cl E (.var i)) t σ H Q := fun t ht σ H Q q => by
      obtain ⟨S, e, h, r, re, hb⟩ := q
      unfold callW at hb
      split at hb
      · rename_i n hn
        split at hb
        · rename_i c' hc
          split at hb
          · rename_i hcc
            have hcc := Nat.eq_of_beq_eq_true hcc
            subst hcc
            refine ⟨S, e, h, r, re, ?_⟩
            unfold evE
            rw [hn]
            intro S1 H1 x1 r1 v rv
            obtain ⟨p, dx, fl, rfl, hi, hcl, hno⟩ := RW.ins r1 rv hc
            refine ⟨(), p, dx, fl, trivial, rfl, hi, hno _ h4, ht _ _ _ ?_⟩
            refine ⟨S1, e, h, r1, re.ext r x1, F.All.imp (fun y py => ?_) (bnd_all hb)⟩
            cases y with
            | ex cn => exact fun S' H' x' r' => py S' H' (x1.trans x') r'
            | ok vs =>
              intro S2 H2 x2 r2 ws rws hl
              rw [List.append_nil]
              refine ⟨by rw [List.length_cons, hl, h3], S2, h, .r n :: vs, r2, RWs.consW (RW.ext r1 x2 _ _ rv) rws, F.All.imp (fun z pz => ?_) (bnd_all py)⟩
              cases z with
              | ok d =>
                intro p0 hp S3 w H3 x3 r3 rw3
                have pz : (match decR d with | some p => ok p | none => .stk : M (Vv × Hq)).All (PoW X.K X.mg G S H h Q E) := pz
                rw [hp] at pz
                exact pz S3 w H3 ((x1.trans x2).trans x3) r3 rw3
              | ex cn => exact fun S' H' x' r' => pz S' H' ((x1.trans x2).trans x') r'
          · exact hb.elim
        · exact hb.elim
      · exact hb.elim
    cases xs with
    | nil =>
      refine PE.imp (pe_methD0 (pl := _) (good := fun _ : Unit => True) (C := fun _ => He.ga X.K (cnm c)) (fa := fun _ => fa) (fd := fun _ => fd) (ps := fun _ => G.fps f) (sp := fun _ => spM X.K X.mg G cl f) po (fun _ _ => ⟨m1.1, m2, m4, m3⟩) (C.room.mono (by omega)) C.pass ht) fun σ H Q q => ?_
      refine fin tNil (fun σ H Q z => ?_) σ H Q q
      obtain ⟨S, e, h, r, re, hb⟩ := z
      cases es with
      | nil =>
        unfold evEs at hb
        exact hb S H (Ext.refl S H) r [] rfl rfl
      | cons => simp [mEs] at h8
    | cons y ys =>
      rw [List.all_cons, Bool.and_eq_true] at hst
      exact PE.imp (pe_methD (pl := _) (good := fun _ : Unit => True) (C := fun _ => He.ga X.K (cnm c)) (fa := fun _ => fa) (fd := fun _ => fd) (ps := fun _ => G.fps f) (sp := fun _ => spM X.K X.mg G cl f) po (fun _ _ => ⟨m1.1, m2, m4, m3⟩) (C.room.mono (by omega)) C.pass pa (star_cons hst.1) (star_any hst.2) ht) fun σ H Q q => fin _ (fun _ _ _ z => z) σ H Q q
  · cases h
end
theorem stepR {K : PySem.W.Frag} {mg : Str → Option Value} {G : Nm} {gc : Gc} {cl : Cl} {E : XK} {S : Sg} {H : Hp} {h : Hq} {e : En} {σ : L2.St} {β : Type} {x : Rh} {f : Vv × Hq → M β} {R : VK} {P : Sg → Hp → Rx β → Prop} (up : ∀ S H S1 H1, Ext S H S1 H1 → ∀ r, P S H r → P S1 H1 r) (pex : ∀ S H c, P S H (.ex c) → ∀ S' H' h', Ext S H S' H' → RelH K S' H' h' → exE mg G E c H')
    (r : RelH K S H h) (re : RelE K S H e σ) (hb : (bnd (evR gc cl x e h) f).All (P S H)) (k : ∀ a S1 H1 v, Ext S H S1 H1 → RelH K S1 H1 a.2 → RelE K S1 H1 e σ → RW K S1 H1 a.1 v → (f a).All (P S1 H1) → R v H1) : tR K mg G gc cl E x σ H R := by
  refine ⟨S, e, h, r, re, F.All.imp (fun y p => ?_) (bnd_all hb)⟩
  cases y with
  | ok a => exact fun S' v H' x' r' rv => k a S' H' v x' r' (re.ext r x') rv (F.All.imp (fun z pz => up S H S' H' x' z pz) p)
  | ex c => exact pex S H c p
def PoR (K : PySem.W.Frag) (mg : Str → Option Value) (G : Nm) (Q : VK) (E : XK) (S : Sg) (H : Hp) : Rx (Vv × Hq) → Prop
  | .ok p => ∀ S' w H', Ext S H S' H' → RelH K S' H' p.2 → RW K S' H' p.1 w → Q w H'
  | .ex c => ∀ S' H' h', Ext S H S' H' → RelH K S' H' h' → exE mg G E c H'
theorem PoR.up {K : PySem.W.Frag} {mg : Str → Option Value} {G : Nm} {Q : VK} {E : XK} : ∀ S H S1 H1, Ext S H S1 H1 → ∀ r, PoR K mg G Q E S H r → PoR K mg G Q E S1 H1 r
  | S, H, S1, H1, x, .ok p, q => fun S' w H' x' => q S' w H' (x.trans x')
  | S, H, S1, H1, x, .ex c, q => fun S' H' h' x' => q S' H' h' (x.trans x')
def PoB (K : PySem.W.Frag) (mg : Str → Option Value) (G : Nm) (Q : Bool → Hp → Prop) (E : XK) (S : Sg) (H : Hp) : Rx (Bool × Hq) → Prop
  | .ok p => ∀ S' H', Ext S H S' H' → RelH K S' H' p.2 → Q p.1 H'
  | .ex c => ∀ S' H' h', Ext S H S' H' → RelH K S' H' h' → exE mg G E c H'
theorem PoB.up {K : PySem.W.Frag} {mg : Str → Option Value} {G : Nm} {Q : Bool → Hp → Prop} {E : XK} : ∀ S H S1 H1, Ext S H S1 H1 → ∀ r, PoB K mg G Q E S H r → PoB K mg G Q E S1 H1 r
  | S, H, S1, H1, x, .ok p, q => fun S' H' x' => q S' H' (x.trans x')
  | S, H, S1, H1, x, .ex c, q => fun S' H' h' x' => q S' H' h' (x.trans x')
def tTr (K : PySem.W.Frag) (mg : Str → Option Value) (G : Nm) (gc : Gc) (cl : Cl) (E : XK) (t : Tr) : TT := fun σ H Q => ∃ S e h, RelH K S H h ∧ RelE K S H e σ ∧ (evTr gc cl t e h).All (PoB K mg G Q E S H)
section
variable {k : Nat} {G : Nm} {gc : Gc} {cl : Cl} {N : List Str} {X : Cx} {sc : Scope} {E : XK} {wn : Nat}
theorem sR (C : Cok X N sc true E k G gc cl) : ∀ (r : Rh) (e : PySem.Expr), mR G N sc r e = true → PE X e (tR X.K X.mg G gc cl E r)
  | .ex x, e, h => by
    simp only [mR] at h
    refine PE.imp (sE x X sc true E e C h) fun σ H Q q => ?_
    obtain ⟨S, e, h, r, re, hb⟩ := q
    unfold evR at hb
    refine ⟨S, e, h, r, re, F.All.imp (fun y p => ?_) (bnd_all hb)⟩
    cases y with
    | ok a => exact fun S' H' x' r' v rv => p S' v H' x' r' rv
    | ex c => exact fun S' H' x' r' => p S' H' h x' r'
  | .new es, e, h => by
    simp only [mR] at h
    split at h
    · rename_i xs pp
      refine PE.imp (pe_lst (sEs es X sc true E xs C h)) fun σ H Q q => ?_
      obtain ⟨S, e, h, r, re, hb⟩ := q
      unfold evR at hb
      refine ⟨S, e, h, r, re, F.All.imp (fun y p => ?_) (bnd_all hb)⟩
      cases y with
      | ex c => exact fun S' H' x' r' => p S' H' h x' r'
      | ok vs =>
        intro S' H' x' r' ws rws _
        replace p : (match dats vs with | some ds => ok (Vv.r h.length, h ++ [Ob.lst ds]) | none => F.stk).All _ := p
        split at p
        · rename_i ds ed
          unfold dats at ed
          split at ed
          · rename_i hle
            have q1 := dats_ok ed rws
            refine ⟨?_, fun pp np => ?_⟩
            · rw [rws.length]
              have := Nat.le_of_ble_eq_true hle
              rw [sizeLine_eq]; omega
            · refine p (S'.own pp) (.ref pp) _ (x'.trans (ext_own np)) (r'.own np q1) ⟨pp, ?_, rfl⟩
              show (S'.as ++ [pp])[h.length]? = some pp
              rw [← r'.len]; simp
          · cases ed
        · exact p.elim
    · cases h
  | .rep es n, e, h => by
    simp only [mR] at h
    split at h
    · rename_i xs p1 m p2
      rw [Bool.and_eq_true] at h
      refine PE.imp (pe_op op_rep (pe_lst (sEs es X sc true E xs C h.1)) (sE n X sc true E m C h.2)) fun σ H Q q => ?_
      obtain ⟨S, e, h, r, re, hb⟩ := q
      unfold evR at hb
      refine ⟨S, e, h, r, re, F.All.imp (fun y p => ?_) (bnd_all hb)⟩
      cases y with
      | ex c => exact fun S' H' x' r' => p S' H' h x' r'
      | ok vs =>
        intro S1 H1 x1 r1 ws rws _
        replace p : (match dats vs with
          | some ds => bnd (evE gc cl n e h) fun w => match w with
            | .d (.int k) => if 0 ≤ k ∧ k ≤ 10000 ∧ ds.length ≤ 100 then ok (Vv.r h.length, h ++ [Ob.lst (repD k.toNat ds)]) else .stk
            | _ => .stk
          | none => F.stk).All _ := p
        split at p
        · rename_i ds hd
          unfold dats at hd
          split at hd
          · rename_i hle
            have q1 := dats_ok hd rws
            refine ⟨?_, fun pp np => ?_⟩
            · rw [rws.length]
              have := Nat.le_of_ble_eq_true hle
              rw [sizeLine_eq]; omega
            · have x2 : Ext S1 H1 (S1.frz pp) (upd H1 pp (.lst ws)) := ext_frz np
              have r2 : RelH X.K (S1.frz pp) (upd H1 pp (.lst ws)) h := r1.frz np
              refine ⟨S1.frz pp, e, h, r2, (re.ext r x1).ext r1 x2, F.All.imp (fun y p => ?_) (bnd_all p)⟩
              cases y with
              | ex c => exact fun S' H' x' r' => p S' H' h (x1.trans (x2.trans x')) r'
              | ok w =>
                intro S3 H3 x3 r3 v3 rv3
                replace p : (match w with
                  | .d (.int k) => if 0 ≤ k ∧ k ≤ 10000 ∧ ds.length ≤ 100 then ok (Vv.r h.length, h ++ [Ob.lst (repD k.toNat ds)]) else .stk
                  | _ => F.stk).All _ := p
                split at p
                · rename_i k'
                  split at p
                  · rename_i hk
                    have hv3 : v3 = .int k' := by have := rv3; unfold RW RV at this; exact this
                    have k3 : H3 pp = some (.lst ws) := r2.keepL x3 upd_same (.inr rfl)
                    have q3 : RVs X.K S3 H3 ds ws := RVs.ext r2 x3 ds ws (RVs.ext r1 x2 ds ws q1)
                    refine ⟨pp, k', ws, rfl, hv3, k3, by omega, by omega, ?_, fun pq nq => ?_⟩
                    · rw [q3.length]
                      refine Nat.le_trans (Nat.mul_le_mul hk.2.2 (show _ ≤ 10000 by omega)) ?_
                      rw [sizeLine_eq]; omega
                    · refine p (S3.own pq) (.ref pq) _ (x1.trans (x2.trans (x3.trans (ext_own nq)))) (r3.own nq (q3.rep _)) ⟨pq, ?_, rfl⟩
                      show (S3.as ++ [pq])[h.length]? = some pq
                      rw [← r3.len]; simp
                  · exact p.elim
                · exact p.elim
          · cases hd
        · exact p.elim
    · cases h
  | .ite c a b, e, h => by
    simp only [mR] at h
    split at h
    · rename_i tc ta tb pp
      simp only [Bool.and_eq_true] at h
      refine PE.imp (pe_ifExp (sT c X sc true E tc C h.1.1) (sR C a ta h.1.2) (sR C b tb h.2)) fun σ H Q q => ?_
      obtain ⟨S, e, h, r, re, hb⟩ := q
      unfold evR at hb
      refine ⟨S, e, h, r, re, F.All.imp (fun y p => ?_) (bnd_all hb)⟩
      cases y with
      | ex c => exact fun S' H' x' r' => p S' H' h x' r'
      | ok k =>
        intro S' H' x' r'
        cases k with
        | true =>
          refine (iteT (B := tR X.K X.mg G gc cl E b σ H' Q) ?_ : if true = true then tR X.K X.mg G gc cl E a σ H' Q else tR X.K X.mg G gc cl E b σ H' Q)
          refine ⟨S', e, h, r', re.ext r x', F.All.imp (fun z pz => ?_) p⟩
          cases z with
          | ok p => exact fun S2 w H2 x2 => pz S2 w H2 (x'.trans x2)
          | ex c => exact fun S2 H2 h2 x2 => pz S2 H2 h2 (x'.trans x2)
        | false =>
          refine (iteF (A := tR X.K X.mg G gc cl E a σ H' Q) ?_ : if false = true then tR X.K X.mg G gc cl E a σ H' Q else tR X.K X.mg G gc cl E b σ H' Q)
          refine ⟨S', e, h, r', re.ext r x', F.All.imp (fun z pz => ?_) p⟩
          cases z with
          | ok p => exact fun S2 w H2 x2 => pz S2 w H2 (x'.trans x2)
          | ex c => exact fun S2 H2 h2 x2 => pz S2 H2 h2 (x'.trans x2)
    · cases h
  | .mko f es, e, h => by
    simp only [mR] at h
    split at h
    · rename_i x p1 kw kws pp
      simp only [Bool.and_eq_true, decide_eq_true_eq] at h
      obtain ⟨⟨⟨⟨⟨⟨h1, hk⟩, h2⟩, h3⟩, h4⟩, h5⟩, h6⟩ := h
      obtain ⟨fa, fd, m1, m2, m3, m4, m6, m5⟩ := C.W.mkj f h1
      rw [h2] at m1
      have hlen : (G.fps f).length = (kw :: kws).length + 1 := by
        have := congrArg List.length h5
        rw [List.length_map, List.length_map, List.length_drop] at this
        rw [List.length_cons] at this ⊢
        omega
      refine PE.imp (pe_makeKS m3 m5 C.room (C.gl h3) m1 (m6 hk) (by rw [hlen]; exact Nat.le_add_left _ _) C.pass (sKs0 es G X sc true E (kw :: kws) C h6) h5 (nodbg_ok h4).1) fun σ H Q q => ?_
      obtain ⟨S, e, h, r, re, hb⟩ := q
      unfold evR at hb
      refine ⟨S, e, h, r, re, F.All.imp (fun y p => ?_) (bnd_all hb)⟩
      cases y with
      | ex c => exact fun S' H' x' r' => p S' H' h x' r'
      | ok vs =>
        intro S1 H1 x1 r1 ws rws hl
        refine ⟨rfl, by rw [hl, List.length_drop, hlen]; rfl, fun a dx ha hdx hne => ?_⟩
        show spJ X.K X.mg G cl f (G.ic f) (.ref a :: ws) _ _ _
        replace p : (match dats vs with
          | some ds => bnd (cl f ds) fun d => match decH d with
            | some h1 => ok (Vv.r h.length, h ++ h1.map (shO h.length))
            | none => .stk
          | none => F.stk).All _ := p
        split at p
        · rename_i ds ed
          unfold dats at ed
          split at ed
          · have q1 : RVs X.K (S1.callee false) H1 ds ws := RVs.mono (S := S1) (S1 := S1.callee false) (fun a m => Or.inl m) rfl (fun _ _ m => m) (fun _ _ _ m => m) _ _ (dats_ok ed rws)
            refine ⟨by rw [List.length_cons, hl, hlen], a, dx, ws, S1.callee false, ds, H1, rfl, ha, hdx, hne, rfl, rfl, r1.callee _, q1, F.All.imp (fun z pz => ?_) (bnd_all p)⟩
            cases z with
            | ok d =>
              intro h1 hd S2 H2 x2 has r2
              replace pz : (match decH d with
                | some h1 => ok (Vv.r h.length, h ++ h1.map (shO h.length))
                | none => .stk : M (Vv × Hq)).All _ := pz
              rw [hd] at pz
              refine ⟨rfl, pz (S1.mrg S2) (.ref a) H2 (x1.trans (ext_mrg x2)) (r1.mrg x2 r2) ⟨a, ?_, rfl⟩⟩
              show (S1.as ++ S2.as)[h.length]? = some a
              rw [List.getElem?_append_right (by rw [r1.len]; exact Nat.le_refl _), r1.len, Nat.sub_self]
              exact has
            | ex c => exact fun S2 H2 x2 has r2 => pz _ _ _ (x1.trans (ext_back x2)) (r1.back x2 r2)
          · cases ed
        · exact p.elim
    · rename_i x p1 y ys pp
      simp only [Bool.and_eq_true, decide_eq_true_eq] at h
      obtain ⟨⟨⟨⟨⟨h1, h2⟩, h3⟩, h4⟩, h5⟩, h6⟩ := h
      obtain ⟨fa, fd, m1, m2, m3, m4, _, m5⟩ := C.W.mkj f h1
      rw [h2] at m1
      have hst := mEs_st es (y :: ys) h6
      rw [List.all_cons, Bool.and_eq_true] at hst
      refine PE.imp (pe_make m3 m5 C.room (C.gl h3) m1 m4 .nil C.pass (sEs es X sc true E (y :: ys) C h6) (nodbg_ok h4).1 (star_cons hst.1) (star_any hst.2)) fun σ H Q q => ?_
      obtain ⟨S, e, h, r, re, hb⟩ := q
      unfold evR at hb
      refine ⟨S, e, h, r, re, F.All.imp (fun y p => ?_) (bnd_all hb)⟩
      cases y with
      | ex c => exact fun S' H' x' r' => p S' H' h x' r'
      | ok vs =>
        intro S1 H1 x1 r1 ws rws hl a dx ha hdx hne
        rw [List.append_nil]
        replace p : (match dats vs with
          | some ds => bnd (cl f ds) fun d => match decH d with
            | some h1 => ok (Vv.r h.length, h ++ h1.map (shO h.length))
            | none => .stk
          | none => F.stk).All _ := p
        split at p
        · rename_i ds ed
          unfold dats at ed
          split at ed
          · have q1 : RVs X.K (S1.callee false) H1 ds ws := RVs.mono (S := S1) (S1 := S1.callee false) (fun a m => Or.inl m) rfl (fun _ _ m => m) (fun _ _ _ m => m) _ _ (dats_ok ed rws)
            refine ⟨by rw [List.length_cons, hl, h5]; rfl, a, dx, ws, S1.callee false, ds, H1, rfl, ha, hdx, hne, rfl, rfl, r1.callee _, q1, F.All.imp (fun z pz => ?_) (bnd_all p)⟩
            cases z with
            | ok d =>
              intro h1 hd S2 H2 x2 has r2
              replace pz : (match decH d with
                | some h1 => ok (Vv.r h.length, h ++ h1.map (shO h.length))
                | none => .stk : M (Vv × Hq)).All _ := pz
              rw [hd] at pz
              refine ⟨rfl, pz (S1.mrg S2) (.ref a) H2 (x1.trans (ext_mrg x2)) (r1.mrg x2 r2) ⟨a, ?_, rfl⟩⟩
              show (S1.as ++ S2.as)[h.length]? = some a
              rw [List.getElem?_append_right (by rw [r1.len]; exact Nat.le_refl _), r1.len, Nat.sub_self]
              exact has
            | ex c => exact fun S2 H2 x2 has r2 => pz _ _ _ (x1.trans (ext_back x2)) (r1.back x2 r2)
          · cases ed
        · exact p.elim
    · cases h
  | .wcl c f i es, e, h => by
    simp only [mR] at h
    refine PE.imp (s_wc C h) fun σ H Q q => ?_
    obtain ⟨S, e, h, r, re, hb⟩ := q
    unfold evR at hb
    refine ⟨S, e, h, r, re, F.All.imp (fun y p => ?_) hb⟩
    cases y with
    | ok a => exact p
    | ex c => exact fun S' H' x' r' => p S' H' h x' r'
  | .rsw c f i es, e, h => by
    simp only [mR] at h
    split at h
    · rename_i g0 p1 ps bd lsc p2 pp
      simp only [Bool.and_eq_true, decide_eq_true_eq] at h
      obtain ⟨⟨⟨⟨⟨⟨h1, h2⟩, h3⟩, h4⟩, h5⟩, h6⟩, h7⟩ := h
      subst h3
      obtain ⟨⟨g, oc, od, pg, bg, dV, kV, doc, pm, an, cdv, ct, osl, m1, m2, m3, m4, m5, m6⟩, hcls⟩ := C.W.res h1
      obtain ⟨cc, P, tB, hcode, hmem⟩ := C.lam h2
      have hr2 := C.room2 h2
      have hpl : ps = ⟨[], [], none, [], [], none, []⟩ := by
        obtain ⟨a1, a2, a3, a4, a5, a6, a7⟩ := ps
        unfold noPar at h5
        simp only [Bool.and_eq_true, List.isEmpty_iff, Option.isNone_iff_eq_none] at h5
        obtain ⟨⟨⟨⟨⟨⟨rfl, rfl⟩, rfl⟩, rfl⟩, rfl⟩, rfl⟩, rfl⟩ := h5
        rfl
      subst hpl
      refine PE.imp (LamX.pe_lamcall (T := tbl X.K) (TT := TRes X.K) (k := 4 * k + 1) (t := fun E' => tW X.K X.mg G gc cl E' c f i es) (C.gl h4) m1 m2 m3 m4 m5 (Ng := resN) (scB_res) rfl (.inl rfl)
        (m6 X rfl rfl rfl rfl rfl (fun e => hu_of (hr2.mono (Nat.le_succ _) |>.deeper e)) _) tB hcode hmem (fun p hp e => C.W.tun p hp _ hmem e) hr2 (by rw [C.hs]; exact LamX.lamS_by h6) rfl (fun _ _ _ _ _ => rfl)
        (fun A outer s H E' f0 c' hr3 => s_wc (G := { G with lm := false }) (X := LamX.lamCx X A outer s H E' lsc f0 c') (sc := lsc) (top := false) (E := E') ⟨C.hN, C.nd, rfl, rfl, hr3, (fun z => nomatch z), C.pw, (fun z => nomatch z), takes_of rfl rfl rfl rfl, (fun z => nomatch z), C.W.lm⟩ h7)) fun σ H Q q => ?_
      obtain ⟨S, e, h, r, re, hb⟩ := q
      refine ⟨r.tab, fun H1 xn ht H2 xm E' Q' hE hQ => ?_⟩
      have kk : ∀ a o, H a = some o → NT o → H2 a = some o := fun a o e n => xm a o (xn a o e n)
      have x2 : Ext S H S H2 := ext_more kk
      have r2 : RelH X.K S H2 h := r.more kk (ht.ext xm)
      unfold evR at hb
      refine ⟨S, e, h, r2, re.ext r x2, F.All.imp (fun y p => ?_) (F.All_bind.mp hb)⟩
      cases y with
      | ok a =>
        obtain ⟨a, h1⟩ := a
        cases a with
        | r n => exact p.elim
        | d d =>
          intro S' v H' x' r' rv
          refine hQ v H' fun pp hp => ?_
          refine p S' _ _ ((x2.trans x').trans (ext_new hp)) (r'.new hp) ?_
          show RV _ _ _ _ _
          unfold RV
          exact ⟨pp, [.str "returns", v], rfl, .inl (.inl upd_same), .cons (by unfold RV; kernel_rfl) (.cons (RV.ext r' (ext_new hp) d v rv) .nil)⟩
      | ex cn =>
        intro S' H' x' r' Cc hC
        replace p : (match exNm cn with
          | some (_, s) => ok (.d (.tup [.str s]), h)
          | none => .stk : M (Vv × Hq)).All _ := p
        split at p
        · rename_i i s hs
          obtain ⟨nm, g1, g2, g3, g4⟩ := hcls cn i s hs Cc hC
          refine hE _ _ _ ⟨i, nm, G.enm cn, g1, by rw [g3], rfl, g4, fun H'' pp k2 hp ht2 => ?_⟩
          have x3 : Ext S' H' S' H'' := ext_more fun a o e _ => k2 a o e
          refine p S' _ _ ((x2.trans x').trans x3) (r'.more (fun a o e _ => k2 a o e) (r'.tab.ext k2)) ?_
          show RV _ _ _ _ _
          unfold RV
          exact ⟨pp, [.str nm], rfl, .inl (.inl ht2), .cons (by unfold RV; rw [g2]) .nil⟩
        · exact p.elim
    · cases h
  | .bop o a b, e, h => by
    simp only [mR] at h
    split at h
    · rename_i l op rr pp
      rw [Bool.and_eq_true, Bool.and_eq_true] at h
      refine PE.imp (pe_op (opOf C h.1.1) (sR C a l h.1.2) (sR C b rr h.2)) fun σ H Q q => ?_
      obtain ⟨S, e, h, r, re, hb⟩ := q
      unfold evR at hb
      refine stepR (P := PoR X.K X.mg G Q E) PoR.up (fun S H c q => q) r re hb fun a S1 H1 v x1 r1 re1 ra hb1 => stepR (P := PoR X.K X.mg G Q E) PoR.up (fun S H c q => q) r1 re1 hb1 fun b S2 H2 w x2 r2 re2 rb hb2 => ?_
      replace ra := RW.ext r1 x2 _ _ ra
      split at hb2
      · rename_i x y ea eb
        split at hb2
        · rename_i z ez
          rw [ea] at ra
          rw [eb] at rb
          exact ⟨S2, b.2, .d x, .d y, x, y, z, r2, ra, rb, rfl, rfl, ez, fun S' v H' x' r' rv => hb2 S' v H' x' r' rv⟩
        · exact hb2.elim
      · exact hb2.elim
    · cases h
  | .cmp o a b, e, h => by
    simp only [mR] at h
    split at h
    · rename_i l op rr pp
      simp only [Bool.and_eq_true] at h
      obtain ⟨⟨⟨h1, h2⟩, h3⟩, h4⟩ := h
      refine PE.imp (pe_cmpR (copOf C h1) (sR C a l h3) (sR C b rr h4) (nomarkS h2)) fun σ H Q q => ?_
      obtain ⟨S, e, h, r, re, hb⟩ := q
      unfold evR at hb
      refine stepR (P := PoR X.K X.mg G Q E) PoR.up (fun S H c q => q) r re hb fun a S1 H1 v x1 r1 re1 ra hb1 => stepR (P := PoR X.K X.mg G Q E) PoR.up (fun S H c q => q) r1 re1 hb1 fun b S2 H2 w x2 r2 re2 rb hb2 => ?_
      replace ra := RW.ext r1 x2 _ _ ra
      split at hb2
      · rename_i x y ea eb
        split at hb2
        · rename_i z ez
          rw [ea] at ra
          rw [eb] at rb
          exact ⟨S2, b.2, .d x, .d y, x, y, .bl z, r2, ra, rb, rfl, rfl, (by show Option.map D.bl (cmpD o x y) = some (.bl z); rw [ez]; rfl), fun S' v H' x' r' rv => hb2 S' v H' x' r' rv⟩
        · exact hb2.elim
      · exact hb2.elim
    · cases h
  | .and a b, e, h => by
    simp only [mR] at h
    split at h
    · rename_i l rr rest pp
      rw [Bool.and_eq_true] at h
      have hb2 : PE X (.BoolOp .And (rr :: rest) pp) (tR X.K X.mg G gc cl E b) := by
        have h2 := h.2
        split at h2
        · exact pe_one (sR C b rr h2)
        · exact sR C b _ h2
      refine PE.imp (pe_and (sR C a l h.1) hb2) fun σ H Q q => ?_
      obtain ⟨S, e, h, r, re, hb⟩ := q
      unfold evR at hb
      refine stepR (P := PoR X.K X.mg G Q E) PoR.up (fun S H c q => q) r re hb fun a S1 H1 v x1 r1 re1 ra hb1 => ?_
      split at hb1
      · rename_i ea
        rw [ea] at ra
        exact ⟨true, (by have := ra; unfold RW RV at this; exact this), iteT ⟨S1, e, a.2, r1, re1, hb1⟩⟩
      · rename_i ea
        rw [ea] at ra
        exact ⟨false, (by have := ra; unfold RW RV at this; exact this), iteF (hb1 S1 (.bl false) H1 (Ext.refl _ _) r1 (by unfold RW RV; rfl))⟩
      · exact hb1.elim
    · cases h
  | .dnw, e, h => by
    simp only [mR] at h
    split at h
    · rename_i pp
      refine PE.imp pe_xnew fun σ H Q q => ?_
      obtain ⟨S, e, h, r, re, hb⟩ := q
      unfold evR at hb
      intro p o np
      refine hb (S.own p) (.ref p) _ (ext_own np) (r.ownG np ⟨o, [], ?_, ⟨rfl, (fun k hk => (by simp [keysD] at hk)), (fun k hk => (by simp [keysD] at hk)), List.nodup_nil⟩, .nil⟩) ⟨p, ?_, rfl⟩
      · rw [C.dx]; exact upd_same
      · show (S.as ++ [p])[h.length]? = some p
        rw [← r.len]; simp
    · cases h
  | .dn1 k v, e, h => by
    simp only [mR] at h
    split at h
    · rename_i a b pp
      rw [Bool.and_eq_true] at h
      refine PE.imp (pe_xone C.hu9 (sE k X sc true E a C h.1) (sE v X sc true E b C h.2)) fun σ H Q q => ?_
      obtain ⟨S, e, h, r, re, hb⟩ := q
      unfold evR at hb
      intro p o np
      have x0 : Ext S H S (upd H p (DicX X.prog X.w p o [])) := ext_new np
      have r0 : RelH X.K S (upd H p (DicX X.prog X.w p o [])) h := r.new np
      have z0 : p ∉ S.as := fun m => by
        obtain ⟨o, q, _⟩ := r.own_at m
        rw [np] at q; cases q
      have z1 : ¬ S.fz p := fun m => by
        obtain ⟨o, q, _⟩ := r.fzs p m
        rw [np] at q; cases q
      have z2 : ¬ S.twA p := fun m => by
        obtain ⟨kvs, q⟩ := r.notTw m
        rw [np] at q; cases q
      have z3 : ¬ S.mmA p := fun m => by
        obtain ⟨kvs, q⟩ := r.notMm m
        rw [np] at q; cases q
      refine ⟨S, e, h, r0, re.ext r x0, F.All.imp (fun y p1 => ?_) (bnd_all hb)⟩
      cases y with
      | ex c => exact fun S' H' x' r' => p1 S' H' h (x0.trans x') r'
      | ok w =>
        intro S1 H1 x1 r1 y ry
        refine ⟨S1, e, h, r1, (re.ext r x0).ext r0 x1, F.All.imp (fun y' p2 => ?_) (bnd_all p1)⟩
        cases y' with
        | ex c => exact fun S' H' x' r' => p2 S' H' h (x0.trans (x1.trans x')) r'
        | ok u =>
          intro S2 H2 x2 r2 v2 rv2
          have xx : Ext S (upd H p (DicX X.prog X.w p o [])) S2 H2 := x1.trans x2
          have e2 : H2 p = some (DicX X.prog X.w p o []) := xx.fr p _ upd_same nt_dicx z0 z2 z3
          refine ⟨e2, ?_⟩
          replace p2 : (match w, u with
            | .d (.tup ks), .d vd => match D.keyD 8 (.tup ks) with
              | true => ok (Vv.r h.length, h ++ [Ob.dct [.tup ks, vd]])
              | false => .stk
            | _, _ => F.stk).All _ := p2
          split at p2
          · rename_i ks vd
            split at p2
            · rename_i hk
              have ry2 : RV X.K S2 H2 (.tup ks) y := RV.ext r1 x2 _ _ ry
              have rv2 : RV X.K S2 H2 vd v2 := rv2
              refine ⟨nk (.tup ks), RV.nis 8 _ _ hk ry2, rfl, nk_depth 8 _ hk, fun o' => ?_⟩
              have un : Unk S2 H2 p := ⟨.inr ⟨o, [], by rw [C.dx]; exact e2⟩, fun m => z0 (xx.na p _ upd_same nt_dicx m), fun m => (by
                rcases xx.nf p _ upd_same nt_dicx m with m | m
                · exact z1 m
                · exact z0 m), fun m => z2 (xx.nt p _ upd_same nt_dicx m), fun m => z3 (xx.nm p _ upd_same nt_dicx m)⟩
              have r3 := r2.unk (o := DicX X.prog X.w p o' [(nk (.tup ks), y, v2)]) un
              have mn : ∀ d w, RV X.K S2 (upd H2 p (DicX X.prog X.w p o' [(nk (.tup ks), y, v2)])) d w → RV X.K (S2.own p) (upd H2 p (DicX X.prog X.w p o' [(nk (.tup ks), y, v2)])) d w := RV.mono (fun a m => m) rfl (fun _ _ m => m) (fun _ _ _ m => m)
              have r4 := r3.adopt (ob := .dct [.tup ks, vd]) un.na un.nf un.nm ⟨o', [(nk (.tup ks), y, v2)], by rw [C.dx]; exact upd_same, ⟨rfl, fun k hk2 => (by
                have : k = .tup ks := by simpa [keysD] using hk2
                subst this
                exact ⟨hk, rfl⟩), fun k hk1 k' hk2 => (by
                have h1 : k = .tup ks := by simpa [keysD] using hk1
                have h2 : k' = .tup ks := by simpa [keysD] using hk2
                rw [h1, h2]), by simp⟩, .cons (mn _ _ (RV.unk un _ _ ry2)) (.cons (mn _ _ (RV.unk un _ _ rv2)) .nil)⟩
              refine p2 (S2.own p) (.ref p) _ (ext_adopt np (ext_unk np xx)) r4 ⟨p, ?_, rfl⟩
              show (S2.as ++ [p])[h.length]? = some p
              rw [← r2.len]; simp
            · exact p2.elim
          · exact p2.elim
    · cases h
  | .nwv, e, h => by
    simp only [mR] at h
    split at h
    · rename_i p1 p2
      refine PE.imp (pe_lst (pa_cons (pe_lst pa_nil) pa_nil)) fun σ H Q q => ?_
      obtain ⟨S, e, h, r, re, hb⟩ := q
      unfold evR at hb
      refine ⟨Nat.zero_le _, fun a na => ⟨by show 1 ≤ sizeLine; decide, fun b nb => ?_⟩⟩
      have r1 := r.own (ds := []) na .nil
      have ha : (S.as ++ [a])[h.length]? = some a := by rw [← r.len]; simp
      have r2 := r1.ownG (ob := .lsv [.r h.length]) (o := .lst [.ref a]) nb ⟨[.ref a], upd_same, .ref a, [], rfl, ⟨a, (by
        show ((S.as ++ [a]) ++ [b])[h.length]? = some a
        rw [List.getElem?_append_left (by rw [List.length_append, r.len]; exact Nat.lt_succ_self _)]
        exact ha), rfl⟩, rfl⟩
      refine hb ((S.own a).own b) (.ref b) _ ((ext_own na).trans (ext_own nb)) (by
        rw [List.append_assoc] at r2
        exact r2) ⟨b, ?_, rfl⟩
      show ((S.as ++ [a]) ++ [b])[h.length + 1]? = some b
      rw [List.getElem?_append_right (by rw [List.length_append, r.len]; exact Nat.le_refl _), List.length_append, r.len]
      simp
    · cases h
theorem sTr (C : Cok X N sc true E k G gc cl) : ∀ (t : Tr) (e : PySem.Expr), mTr G N sc t e = true → PT X e (tTr X.K X.mg G gc cl E t)
  | .pur t, e, h => by
    simp only [mTr] at h
    refine PT.imp (sT t X sc true E e C h) fun σ H Q q => ?_
    obtain ⟨S, e, h, r, re, hb⟩ := q
    unfold evTr at hb
    refine ⟨S, e, h, r, re, F.All.imp (fun y p => ?_) (bnd_all hb)⟩
    cases y with
    | ok a => exact fun S' H' x' r' => p S' H' x' r'
    | ex c => exact fun S' H' x' r' => p S' H' h x' r'
  | .cmp o a b, e, h => by
    simp only [mTr] at h
    split at h
    · rename_i l op rr pp
      simp only [Bool.and_eq_true] at h
      obtain ⟨⟨⟨h1, h2⟩, h3⟩, h4⟩ := h
      refine PT.imp (pt_cmpR (copOf C h1) (sR C a l h3) (sR C b rr h4) (nomarkS h2)) fun σ H Q q => ?_
      obtain ⟨S, e, h, r, re, hb⟩ := q
      unfold evTr at hb
      refine stepR (P := PoB X.K X.mg G Q E) PoB.up (fun S H c q => q) r re hb fun a S1 H1 v x1 r1 re1 ra hb1 => stepR (P := PoB X.K X.mg G Q E) PoB.up (fun S H c q => q) r1 re1 hb1 fun b S2 H2 w x2 r2 re2 rb hb2 => ?_
      replace ra := RW.ext r1 x2 _ _ ra
      split at hb2
      · rename_i x y ea eb
        split at hb2
        · rename_i z ez
          rw [ea] at ra
          rw [eb] at rb
          refine ⟨S2, b.2, .d x, .d y, x, y, .bl z, r2, ra, rb, rfl, rfl, (by show Option.map D.bl (cmpD o x y) = some (.bl z); rw [ez]; rfl), fun S' v H' x' r' rv => ⟨z, by unfold RV at rv; exact rv, hb2 S' H' x' r'⟩⟩
        · exact hb2.elim
      · exact hb2.elim
    · cases h
  | .and a b, e, h => by
    simp only [mTr] at h
    split at h
    · rename_i l rr rest pp
      rw [Bool.and_eq_true] at h
      refine PT.imp (pw_and (sTr C a l h.1) (tB' := tTr X.K X.mg G gc cl E b) (by
        have h2 := h.2
        split at h2
        · exact pw_and1 (sTr C b rr h2)
        · exact pw_of (sTr C b _ h2))).pt fun σ H Q q => ?_
      obtain ⟨S, e, h, r, re, hb⟩ := q
      unfold evTr at hb
      refine ⟨S, e, h, r, re, F.All.imp (fun y p => ?_) (bnd_all hb)⟩
      cases y with
      | ok q =>
        intro S' H' x' r'
        obtain ⟨k, h1⟩ := q
        cases k with
        | true => exact iteT ⟨S', e, h1, r', re.ext r x', F.All.imp (fun z pz => PoB.up _ _ _ _ x' z pz) p⟩
        | false => exact iteF (p S' H' x' r')
      | ex c => exact p
    · cases h
  | .or a b, e, h => by
    simp only [mTr] at h
    split at h
    · rename_i l rr rest pp
      rw [Bool.and_eq_true] at h
      refine PT.imp (pw_or (sTr C a l h.1) (tB' := tTr X.K X.mg G gc cl E b) (by
        have h2 := h.2
        split at h2
        · exact pw_or1 (sTr C b rr h2)
        · exact pw_of (sTr C b _ h2))).pt fun σ H Q q => ?_
      obtain ⟨S, e, h, r, re, hb⟩ := q
      unfold evTr at hb
      refine ⟨S, e, h, r, re, F.All.imp (fun y p => ?_) (bnd_all hb)⟩
      cases y with
      | ok q =>
        intro S' H' x' r'
        obtain ⟨k, h1⟩ := q
        cases k with
        | true => exact iteT (p S' H' x' r')
        | false => exact iteF ⟨S', e, h1, r', re.ext r x', F.All.imp (fun z pz => PoB.up _ _ _ _ x' z pz) p⟩
      | ex c => exact p
    · cases h
theorem onE_bnd {α β : Type} {m : M α} {g : α → M β} {f : β → F Fl} : onE (bnd m g) f = onE m fun a => onE (g a) f := by
  unfold onE bnd
  rw [F.bind_assoc]
  congr 1
  funext r
  cases r <;> rfl
theorem getD_some {e : En} {i : Nat} {v : Vv} (hv : e.getD i none = some v) : e[i]? = some (some v) := by
  rw [List.getD_eq_getElem?_getD] at hv
  cases he : e[i]? with
  | none => rw [he] at hv; cases hv
  | some o => rw [he] at hv; simp at hv; rw [hv]
theorem assignSub {o j : PySem.Expr} {p : Pos} {env : Env} (h : notSlc j = true) : ∀ v, assign (.Subscript o j p) env v = (do
      let ov ← holding [v] (eval o env)
      let iv ← holding [v, ov] (eval j env)
      standAt p
      holding [v, ov, iv] (setItem ov iv v)
      release [v, ov, iv] []) := by
  intro v
  cases j <;> first | rfl | (simp [notSlc] at h)
theorem own_at {K : PySem.W.Frag} {S : Sg} {H : Hp} {h : Hq} {e : En} {σ : L2.St} {i n : Nat} (re : RelE K S H e σ) (hv : e.getD i none = some (.r n)) : ∃ a, σ[i]? = some (some (.ref a)) ∧ S.as[n]? = some a := by
  obtain ⟨w, ew, a, ea, rfl⟩ := re.sl i _ (getD_some hv)
  exact ⟨a, ew, ea⟩
theorem Cok.loc (C : Cok X N sc true E k G gc cl) {x : Str} (h : loc1 sc true x = true) : Loc X.env.scope x := by
  rcases loc1_ok h with z | ⟨_, z⟩
  · exact .inl (by rw [C.hs]; exact z)
  · exact .inr (by rw [C.hs]; exact z)
theorem Cok.hf (C : Cok X N sc true E k G gc cl) (x : Str) : X.fn x = true ∨ X.env.scope.names.lookup x = some .local := .inl (C.fn rfl x)
theorem put_ok {i : Nat} {r : Rh} {D : Ends} {K : PySem.W.Frag} {mg : Str → Option Value} {σ : L2.St} {H : Hp} (q : tS K mg G gc cl wn E (.put i r) D σ H) : tR K mg G gc cl E r σ H fun x H1 => D.nx (σ.set i (some x)) H1 := by
  obtain ⟨S, e, h, r, re, hb⟩ := q
  unfold exS at hb
  refine onSR r re hb fun a S1 H1 v x1 r1 re1 ra hb1 => ?_
  split at hb1
  · exact hb1 S1 _ H1 (Ext.refl _ _) r1 (re1.set ra)
  · exact hb1.elim
theorem tR_ex {K : PySem.W.Frag} {mg : Str → Option Value} {x : Ex} {σ : L2.St} {H : Hp} {Q : VK} (q : tR K mg G gc cl E (.ex x) σ H Q) : tE K mg G gc cl E x σ H Q := by
  obtain ⟨S, e, h, r, re, hb⟩ := q
  unfold evR at hb
  refine ⟨S, e, h, r, re, F.All.imp (fun y p => ?_) (bnd_all hb)⟩
  cases y with
  | ok a => exact fun S' H' x' r' v rv => p S' v H' x' r' rv
  | ex c => exact fun S' H' x' r' => p S' H' h x' r'
theorem put_lc (C : Cok X N sc true E k G gc cl) {i : Nat} {x : Ex} {y : Str} {py pos spos : Pos} {elt : PySem.Expr} {gs : List Comprehension} {scope : Scope} (hi : N[i]? = some y) (hl : isLoc sc y = true) (hk : isFnK sc = true) (hp : (py.line == pos.line) = true)
    (ha : (scope.names.any fun (n, k) => n == y && (k == .local || k == .cell)) = false) (hm : mE G N x sc (.ListComp elt gs scope pos) = true) :
    PS X (.Assign [.Name y py] (.ListComp elt gs scope pos) spos) (tS X.K X.mg G gc cl wn E (.put i (.ex x))) := by
  have hN : X.N.Nodup := by rw [C.hN]; exact C.nd
  have hy : X.env.scope.names.lookup y = some .local := by rw [C.hs]; exact isLoc_ok hl
  have hkf : X.env.scope.kind = .function := by rw [C.hs]; exact isFnK_ok hk
  cases x with
  | cmp1 el tg it own =>
    unfold mE at hm
    split at hm
    · rename_i xx t iter sco po heq
      cases heq
      simp only [Bool.and_eq_true] at hm
      obtain ⟨⟨⟨⟨⟨h1, h2⟩, h3⟩, h4⟩, h5⟩, h6⟩ := hm
      have bo : BlkOk X.N X.env.scope scope (ownN N own) := by
        rw [C.hN, C.hs]; exact blkOk_by h1
      refine PS.imp (ps_setLc (i := i) (own := ownN N own) (g := gT X.K tg) (tt := tYes) (te := tE X.K X.mg G gc cl (fun _ _ _ => False) el) C.calm hN (by rw [C.hN]; exact hi) hy (sw_true hkf hy hp ha) (sI it X sc true E t iter C h5) bo
        (fun s H Cc cl' fp => sTg (C.blk s H scope cl' Cc fp) tg t h4) (fun _ _ _ _ _ => pts_nil) (fun s H Cc cl' fp => sE el _ _ _ _ elt (C.blk s H scope cl' Cc fp) h6) (folded h3)) fun D σ H q => ?_
      rw [ownN_map]
      exact lc1_imp h2 (tR_ex (put_ok q))
    · cases hm
  | cmpc el tg it c own =>
    unfold mE at hm
    split at hm
    · rename_i xx t iter cd sco po heq
      cases heq
      simp only [Bool.and_eq_true] at hm
      obtain ⟨⟨⟨⟨⟨⟨h1, h2⟩, h3⟩, h4⟩, h5⟩, h7⟩, h6⟩ := hm
      have bo : BlkOk X.N X.env.scope scope (ownN N own) := by
        rw [C.hN, C.hs]; exact blkOk_by h1
      refine PS.imp (ps_setLc (i := i) (own := ownN N own) (g := gT X.K tg) (tt := tT X.K X.mg G gc cl (fun _ _ _ => False) c) (te := tE X.K X.mg G gc cl (fun _ _ _ => False) el) C.calm hN (by rw [C.hN]; exact hi) hy (sw_true hkf hy hp ha) (sI it X sc true E t iter C h5) bo
        (fun s H Cc cl' fp => sTg (C.blk s H scope cl' Cc fp) tg t h4) (fun s H Cc cl' fp => pts_one (sT c _ _ _ _ cd (C.blk s H scope cl' Cc fp) h7)) (fun s H Cc cl' fp => sE el _ _ _ _ elt (C.blk s H scope cl' Cc fp) h6) (folded h3)) fun D σ H q => ?_
      rw [ownN_map]
      exact lcc_imp h2 (tR_ex (put_ok q))
    · cases hm
  | _ => simp [mE] at hm
end
end Bk
namespace Bk
open PySem PySem.Spec PyProof.Rows L2
variable [MF] [PWc]
theorem length_putF' (f : Str) (v : V) : ∀ fs : List (Str × V), (putF f v fs).length = if (fs.lookup f).isSome = true then fs.length else fs.length + 1
  | [] => rfl
  | (g, x) :: r => by
    unfold putF
    by_cases h : g = f
    · subst h
      rw [if_pos rfl, List.lookup_cons]
      simp
    · rw [if_neg h, List.length_cons, length_putF' f v r, List.lookup_cons]
      have hb : (f == g) = false := beq_eq_false_iff_ne.mpr (fun e => h e.symm)
      rw [hb]
      simp only [List.length_cons]
      split <;> omega
theorem cf_len (c : Nat) : (cf c).length ≤ 6 := by
  match c with
  | 0 | 1 | 2 | 3 => decide
  | c + 4 => exact Nat.zero_le _
theorem cm_len (c : Nat) : cm c ≤ 2 := by
  match c with
  | 0 | 1 => decide
  | c + 2 => exact Nat.zero_le _
theorem clN_nodup (c : Nat) : (clN c).Nodup := by
  match c with
  | 0 | 1 | 2 | 3 => decide +kernel
  | c + 4 =>
    have e1 : cf (c + 4) = [] := rfl
    have e2 : cm (c + 4) = 0 := rfl
    unfold clN
    rw [e1, e2]
    exact List.nodup_nil
theorem nodup_at {α : Type} {l : List α} (h : l.Nodup) {i j : Nat} {x : α} (a : l[i]? = some x) (b : l[j]? = some x) : i = j := by
  obtain ⟨h1, e1⟩ := List.getElem?_eq_some_iff.mp a
  obtain ⟨h2, e2⟩ := List.getElem?_eq_some_iff.mp b
  exact (List.getElem_inj h).mp (e1.trans e2.symm)
theorem clN_fld {c i f : Nat} (h : (cf c)[i]? = some f) : (clN c)[i]? = some (fln f) := by
  unfold clN
  rw [List.getElem?_append_left (by rw [List.length_map]; exact (List.getElem?_eq_some_iff.mp h).1), List.getElem?_map, h]
  rfl
theorem clN_tbl {c j : Nat} (h : j < cm c) : (clN c)[(cf c).length + j]? = some (tnm c j) := by
  unfold clN
  rw [List.getElem?_append_right (by rw [List.length_map]; omega), List.length_map, Nat.add_sub_cancel_left, List.getElem?_map, List.getElem?_range h]
  rfl
section
variable {K : PySem.W.Frag} {S : Sg} {H : Hp} {h : Hq}
theorem FlOk.put {c i f : Nat} {fl : List (Str × V)} {vs : List V} {v : V} (q : FlOk K c fl vs []) (hi : (cf c)[i]? = some f) (hl : i ≤ vs.length) (hv : vs.length ≤ (cf c).length) : FlOk K c (putF (fln f) v fl) (if i < vs.length then vs.set i v else vs ++ [v]) [] where
  len := by
    have hq := q.len
    simp only [List.length_nil, Nat.add_zero] at hq ⊢
    by_cases h : i < vs.length
    · rw [if_pos h, List.length_set, length_putF', q.fld i f vs[i] hi (List.getElem?_eq_getElem h)]
      exact hq
    · rw [if_neg h, List.length_append, List.length_singleton]
      have := length_putF (fln f) v fl
      omega
  fld := fun i' f' v' h1 h2 => by
    rw [lookup_putF]
    by_cases e : i' = i
    · subst e
      rw [hi] at h1
      cases h1
      rw [if_pos rfl]
      by_cases h : i' < vs.length
      · rw [if_pos h, List.getElem?_set_self h] at h2
        exact h2
      · rw [if_neg h, List.getElem?_append_right (by omega)] at h2
        have : i' - vs.length = 0 := by omega
        rw [this] at h2
        exact h2
    · rw [if_neg (fun z => e (nodup_at (clN_nodup c) (clN_fld h1) (by rw [z]; exact clN_fld hi)))]
      refine q.fld i' f' v' h1 ?_
      by_cases h : i < vs.length
      · rw [if_pos h, List.getElem?_set_ne (Ne.symm e)] at h2
        exact h2
      · rw [if_neg h] at h2
        by_cases h3 : i' < vs.length
        · rwa [List.getElem?_append_left h3] at h2
        · rw [List.getElem?_append_right (by omega)] at h2
          have : i' - vs.length ≠ 0 := by omega
          have := (List.getElem?_eq_some_iff.mp h2).1
          simp at this
          omega
  tbl := fun j d hd => by simp at hd
  no := fun x hx => by
    rw [lookup_putF, if_neg (fun z => hx (by rw [z]; exact List.mem_of_getElem? (clN_fld hi)))]
    exact q.no x hx
  cl := q.cl
theorem FlOk.putT {c : Nat} {fl : List (Str × V)} {vs : List V} {ts : List Addr} {d : Addr} (q : FlOk K c fl vs ts) (hj : ts.length < cm c) (hv : vs.length ≤ (cf c).length) : FlOk K c (putF (tnm c ts.length) (.ref d) fl) vs (ts ++ [d]) where
  len := by
    have hq := q.len
    rw [List.length_append, List.length_singleton]
    have := length_putF (tnm c ts.length) (.ref d) fl
    omega
  fld := fun i' f' v' h1 h2 => by
    rw [lookup_putF, if_neg (fun z => ?_)]
    · exact q.fld i' f' v' h1 h2
    · have := nodup_at (clN_nodup c) (clN_fld h1) (by rw [z]; exact clN_tbl hj)
      have := (List.getElem?_eq_some_iff.mp h1).1
      omega
  tbl := fun j d' hd => by
    rw [lookup_putF]
    by_cases e : j = ts.length
    · subst e
      rw [List.getElem?_append_right (Nat.le_refl _), Nat.sub_self] at hd
      cases hd
      rw [if_pos rfl]
    · have hlt : j < ts.length := by
        have := (List.getElem?_eq_some_iff.mp hd).1
        rw [List.length_append, List.length_singleton] at this
        omega
      rw [List.getElem?_append_left hlt] at hd
      rw [if_neg (fun z => ?_)]
      · exact q.tbl j d' hd
      · have := nodup_at (clN_nodup c) (clN_tbl (c := c) (j := j) (by omega)) (by rw [z]; exact clN_tbl hj)
        omega
  no := fun x hx => by
    rw [lookup_putF, if_neg (fun z => hx (by rw [z]; exact List.mem_of_getElem? (clN_tbl hj)))]
    exact q.no x hx
  cl := q.cl
theorem RWs.append1 : ∀ {ds : List Vv} {vs : List V} {d : Vv} {v : V}, RWs K S H ds vs → RW K S H d v → RWs K S H (ds ++ [d]) (vs ++ [v])
  | [], vs, d, v, q, r => by rw [show vs = [] from q]; exact ⟨v, [], rfl, r, rfl⟩
  | x :: ds, vs, d, v, q, r => by
    obtain ⟨w, t, rfl, q1, q2⟩ := q
    exact ⟨w, t ++ [v], rfl, q1, RWs.append1 q2 r⟩
theorem RWs.set : ∀ {ds : List Vv} {vs : List V} (i : Nat) {d : Vv} {v : V}, RWs K S H ds vs → RW K S H d v → RWs K S H (ds.set i d) (vs.set i v)
  | [], vs, i, d, v, q, _ => by rw [show vs = [] from q]; exact rfl
  | d :: ds, vs, 0, d', v', q, r => by
    obtain ⟨v, t, rfl, q1, q2⟩ := q
    exact ⟨v', t, rfl, r, q2⟩
  | d :: ds, vs, i + 1, d', v', q, r => by
    obtain ⟨v, t, rfl, q1, q2⟩ := q
    exact ⟨v, t.set i v', rfl, q1, RWs.set i q2 r⟩
def Sg.reg (S : Sg) (d : Addr) (j : Nat) (o : D) : Sg := { S with mm := fun d' j' o' => S.mm d' j' o' ∨ (d' = d ∧ j' = j ∧ o' = o) }
theorem ext_reg {d : Addr} {j : Nat} {o : D} {u : HO} (n : H d = none) : Ext S H (S.reg d j o) (upd H d u) where
  as := ⟨[], by simp [Sg.reg]⟩
  kp := fun a o' e n' => ⟨o', by rw [upd_ne (ne_of_none e n)]; exact e, n'⟩
  na := fun _ _ _ _ m => m
  fz := fun _ m => m
  nf := fun _ _ _ _ m => .inl m
  fk := fun a o' e _ _ _ _ => by rw [upd_ne (ne_of_none e n)]; exact e
  fr := fun a o' e _ _ _ _ => by rw [upd_ne (ne_of_none e n)]; exact e
  sc := rfl
  tw := fun _ _ m => m
  nt := fun _ _ _ _ m => m
  mm := fun _ _ _ m => .inl m
  nm := fun a o' e _ m => by
    obtain ⟨j', o2, m | ⟨rfl, _, _⟩⟩ := m
    · exact ⟨j', o2, m⟩
    · rw [n] at e; cases e
theorem RelH.reg (r : RelH K S H h) {d : Addr} {j : Nat} {o : D} (n : H d = none) : RelH K (S.reg d j o) (upd H d (DicO PWc.P PWc.w d [])) h := by
  have x : Ext S H (S.reg d j o) (upd H d (DicO PWc.P PWc.w d [])) := ext_reg n
  have ne : ∀ {d' j' o'}, S.mm d' j' o' → d' ≠ d := fun {d' j' o'} m z => by
    obtain ⟨es, q⟩ := r.notMm ⟨j', o', m⟩
    rw [z, n] at q; cases q
  refine ⟨r.len, r.nd, fun m ob e => r.mapO x (fun a ma => ?_) e, r.sep, r.keepS x r.scr, fun t b et => (r.twn t b et).keep (upd_keeps n), fun a ma => ?_, r.tabNew n, fun d' j' o' m => ?_, fun d' j1 o1 j2 o2 m1 m2 => ?_, fun a m => ?_⟩
  · obtain ⟨o', q, _⟩ := r.own_at ma
    rw [upd_ne (ne_of_none q n)]
  · obtain ⟨o', q, n'⟩ := r.fzs a ma
    exact x.kp a o' q n'
  · rcases m with m | ⟨rfl, rfl, rfl⟩
    · exact r.mapM x m (by rw [upd_ne (ne m)])
    · exact ⟨[], upd_same, List.nodup_nil, fun x hx => by cases hx⟩
  · rcases m1 with m1 | ⟨rfl, rfl, rfl⟩
    · rcases m2 with m2 | ⟨rfl, rfl, rfl⟩
      · exact r.mmu _ _ _ _ _ m1 m2
      · exact absurd rfl (ne m1)
    · rcases m2 with m2 | ⟨_, rfl, rfl⟩
      · exact absurd rfl (ne m2)
      · exact ⟨rfl, rfl⟩
  · rintro ⟨j', o2, z | ⟨rfl, _, _⟩⟩
    · exact r.omm a m ⟨j', o2, z⟩
    · rcases m with m | m
      · obtain ⟨o', q, _⟩ := r.own_at m
        rw [n] at q; cases q
      · obtain ⟨o', q, _⟩ := r.fzs a m
        rw [n] at q; cases q
end
section
variable {k : Nat} {G : Nm} {gc : Gc} {cl : Cl} {N : List Str} {X : Cx} {sc : Scope} {E : XK} {wn : Nat}
theorem Cok.pev (C : Cok X N sc true E k G gc cl) {i : Nat} {e : PySem.Expr} (h : mE G N (.var i) sc e = true) : PE X e (tVar i) := by
  unfold mE at h
  split at h
  · rename_i x pp
    rw [Bool.and_eq_true, Bool.and_eq_true] at h
    obtain ⟨⟨h1, h2⟩, h3⟩ := h
    obtain ⟨d1, d2, _⟩ := nodbg_ok h3
    exact pe_var (i := i) (by rw [C.hN]; exact of_decide_eq_true h1) (by rw [C.hs]; exact vis_ok h2) d1 d2
  · cases h
theorem s_fse (C : Cok X N sc true E k G gc cl) {s f : Nat} {rh : Rh} {x : Str} {p p2 pp : Pos} {e : PySem.Expr} (h2 : notCmp e = true) (h3 : mE G N (.var s) sc (.Name x p) = true) (h4 : mR G N sc rh e = true) :
    PS X (.Assign [.Attribute (.Name x p) (fln f) p2] e pp) (tS X.K X.mg G gc cl wn E (.fse s f rh)) := by
  refine PS.imp (ps_fld (C.pev h3) (sR C rh e h4) (swaps_no h2)) fun D σ H q => ?_
  obtain ⟨S, e, h, r, re, hb⟩ := q
  unfold exS at hb
  refine onSR r re hb fun a S1 H1 v x1 r1 re1 ra hb1 => ?_
  split at hb1
  · rename_i n hn
    obtain ⟨p, ep, sp⟩ := own_at (h := a.2) re1 hn
    refine ⟨.ref p, ep, ?_⟩
    split at hb1
    · rename_i h1 hs
      unfold setF at hs
      split at hs
      · rename_i c fs hx
        split at hs
        · rename_i i hi
          obtain ⟨b, eb, dx, fl, vs, ts, z1, z2, z3, z4, z5, z6, z7⟩ := r1.obj n _ hx
          rw [sp] at eb; cases eb
          have hts : ts = [] := List.length_eq_zero_iff.mp z3
          subst hts
          have hvl : vs.length = fs.length := RWs.length z2
          have hlen := z4.len
          have hcf := cf_len c
          simp only [List.length_nil, Nat.add_zero] at hlen
          have mp := List.mem_of_getElem? sp
          have fin : ∀ fs' : List Vv, h1 = a.2.set n (.ins c fs' 0) → i ≤ vs.length → fs' = (if i < fs.length then fs.set i a.1 else fs ++ [a.1]) → D.nx σ (upd H1 p (.ins (He.ga X.K (cnm c)) dx (putF (fln f) v fl))) := fun fs' e1 e2 e3 => by
            subst e1
            have xw : Ext S1 H1 S1 (upd H1 p (.ins (He.ga X.K (cnm c)) dx (putF (fln f) v fl))) := ext_write mp (r1.nz sp hx) nt_ins
            refine hb1 S1 σ _ xw (r1.change sp (r1.nz sp hx) nt_ins ⟨dx, _, (if i < vs.length then vs.set i v else vs ++ [v]), [], upd_same, ?_, rfl, z4.put (posL_get hi) e2 (by omega), ?_, Nat.zero_le _, fun j d hd => by simp at hd⟩) (re1.ext r1 xw)
            · rw [e3, hvl]
              split
              · exact RWs.ext r1 xw _ _ (RWs.set i z2 ra)
              · exact RWs.ext r1 xw _ _ (RWs.append1 z2 ra)
            · rw [e3]
              have := posL_lt hi
              split
              · rw [List.length_set]; exact z5
              · rw [List.length_append, List.length_singleton]
                omega
          refine ⟨p, _, dx, fl, rfl, z1, z4.cl.1, z4.cl.2 _ (fln_mem hi), by omega, ?_⟩
          split at hs
          · rename_i hlt
            have hlt : i < fs.length := by simpa [Nat.blt_eq] using hlt
            exact fin _ (Option.some.inj hs).symm (by omega) (by rw [if_pos hlt])
          · rename_i hlt
            have hlt : ¬ i < fs.length := fun z => by rw [show Nat.blt i fs.length = true from Nat.ble_eq_true_of_le z] at hlt; cases hlt
            split at hs
            · rename_i heq
              have heq := Nat.eq_of_beq_eq_true heq
              exact fin _ (Option.some.inj hs).symm (by omega) (by rw [if_neg hlt])
            · cases hs
        · cases hs
      · cases hs
    · exact hb1.elim
  · exact hb1.elim
theorem s_fmn (C : Cok X N sc true E k G gc cl) {c s j : Nat} {x : Str} {p p2 p3 pp : Pos} (h3 : mE G N (.var s) sc (.Name x p) = true) :
    PS X (.Assign [.Attribute (.Name x p) (tnm c j) p2] (.Dict [] [] p3) pp) (tS X.K X.mg G gc cl wn E (.fmn c s j)) := by
  refine PS.imp (ps_fld (C.pev h3) pe_nnew (swaps_no rfl)) fun D σ H q => ?_
  obtain ⟨S, e, h, r, re, hb⟩ := q
  unfold exS at hb
  intro d hd
  split at hb
  · rename_i n hn
    obtain ⟨p, ep, sp⟩ := own_at (h := h) re hn
    refine ⟨.ref p, ep, ?_⟩
    split at hb
    · rename_i h1 hs
      unfold mkT at hs
      split at hs
      · rename_i c' fs m hx
        split at hs
        · rename_i hcond
          simp only [Bool.and_eq_true] at hcond
          obtain ⟨⟨⟨g1, g2⟩, g3⟩, g4⟩ := hcond
          have g1 := Nat.eq_of_beq_eq_true g1
          have g2 := Nat.eq_of_beq_eq_true g2
          have g3 : j < cm c' := by simpa [Nat.blt_eq] using g3
          have g4 := Nat.eq_of_beq_eq_true g4
          subst g1 g2
          split at hs
          · rename_i ds hds
            cases hs
            obtain ⟨b, eb, dx, fl, vs, ts, z1, z2, z3, z4, z5, z6, z7⟩ := r.obj n _ hx
            rw [sp] at eb; cases eb
            subst z3
            have hvl : vs.length = fs.length := RWs.length z2
            have hlen := z4.len
            have hcf := cf_len c'
            have hcm := cm_len c'
            have hpd : p ≠ d := ne_of_none z1 hd
            rw [C.pw.1, C.pw.2]
            have x1 : Ext S H (S.reg d (8 * c' + ts.length) (.obj c' ds)) (upd H d (DicO PWc.P PWc.w d [])) := ext_reg hd
            have r1 : RelH X.K (S.reg d (8 * c' + ts.length) (.obj c' ds)) (upd H d (DicO PWc.P PWc.w d [])) h := r.reg hd
            have mp := List.mem_of_getElem? sp
            refine ⟨p, _, dx, fl, rfl, by rw [upd_ne hpd]; exact z1, z4.cl.1, z4.cl.2 _ (List.mem_of_getElem? (clN_tbl g3)), by omega, ?_⟩
            have xw : Ext (S.reg d (8 * c' + ts.length) (.obj c' ds)) (upd H d (DicO PWc.P PWc.w d [])) (S.reg d (8 * c' + ts.length) (.obj c' ds)) (upd (upd H d (DicO PWc.P PWc.w d [])) p (.ins (He.ga X.K (cnm c')) dx (putF (tnm c' ts.length) (.ref d) fl))) := ext_write mp (r1.nz sp hx) nt_ins
            refine hb _ σ _ (x1.trans xw) (r1.change sp (r1.nz sp hx) nt_ins ⟨dx, _, vs, ts ++ [d], upd_same, RWs.ext r (x1.trans xw) _ _ z2, by rw [List.length_append, List.length_singleton], z4.putT g3 (by omega), z5, by omega, fun j' d' hd' => ?_⟩) (re.ext r (x1.trans xw))
            by_cases e : j' < ts.length
            · rw [List.getElem?_append_left e] at hd'
              obtain ⟨ds', y1, y2⟩ := z7 j' d' hd'
              exact ⟨ds', y1, .inl y2⟩
            · have hj : j' = ts.length := by
                have := (List.getElem?_eq_some_iff.mp hd').1
                rw [List.length_append, List.length_singleton] at this
                omega
              subst hj
              rw [List.getElem?_append_right (Nat.le_refl _), Nat.sub_self] at hd'
              cases hd'
              exact ⟨ds, hds, .inr ⟨rfl, rfl, rfl⟩⟩
          · cases hs
        · cases hs
      · cases hs
    · exact hb.elim
  · exact hb.elim
theorem own_fld {K : PySem.W.Frag} {S : Sg} {H : Hp} {h : Hq} {e : En} {σ : L2.St} {s f k' : Nat} {xs : List Bk.D} (r : RelH K S H h) (re : RelE K S H e σ) (ho : ownL h (e.getD s none) f = some (k', xs)) :
    h[k']? = some (.lst xs) ∧ ∃ p a c dx fl, σ[s]? = some (some (.ref p)) ∧ H p = some (.ins (He.ga K (cnm c)) dx fl) ∧ ClsK K c ∧ fln f ∈ clN c ∧ fl.lookup (fln f) = some (.ref a) ∧ S.as[k']? = some a := by
  unfold ownL at ho
  split at ho
  · rename_i n hn
    split at ho
    · rename_i c fs m hx
      split at ho
      · rename_i k2 hf
        split at ho
        · rename_i xs2 hl
          cases ho
          obtain ⟨p, ep, sp⟩ := own_at (h := h) re hn
          obtain ⟨b, eb, dx, fl, vs, ts, z1, z2, z3, z4, z5, z6, z7⟩ := r.obj n _ hx
          rw [sp] at eb; cases eb
          unfold fldL at hf
          obtain ⟨i, ei, hf⟩ := Option.bind_eq_some_iff.mp hf
          obtain ⟨u, eu, a, ea, rfl⟩ := RWs.get z2 hf
          exact ⟨hl, p, a, c, dx, fl, ep, z1, z4.cl, fln_mem ei, z4.fld i f _ (posL_get ei) eu, ea⟩
        · cases ho
      · cases ho
    · cases ho
  · cases ho
theorem s_fap (C : Cok X N sc true E k G gc cl) {s f : Nat} {x : Ex} {y : Str} {p1 p2 ap cp pp : Pos} {e : PySem.Expr} (h2 : (ap.endLine == cp.line) = true) (h3 : notSt e = true) (h4 : mE G N (.var s) sc (.Name y p1) = true) (h5 : mE G N x sc e = true) :
    PS X (.Expr (.Call (.Attribute (.Attribute (.Name y p1) (fln f) p2) "append" ap) [e] [] cp) pp) (tS X.K X.mg G gc cl wn E (.fap s f x)) := by
  have sc1 := star_cons (es := []) (env := X.env) h3
  refine PS.imp (ps_expr (pe_bm PySem.F.plainAttrs_list PySem.F.slot_list_append PySem.F.type_list_append mt_append (pe_fld (C.pev h4) (attrBase rfl)) (pa_cons (sE x X sc true E e C h5) pa_nil sc1) (attrBase rfl) (by rw [sc1]; rfl) h2 sc1 rfl) (swaps_no rfl)) fun D σ H q => ?_
  obtain ⟨S, e, h, r, re, hb⟩ := q
  unfold exS at hb
  split at hb
  · rename_i k' xs ho
    obtain ⟨hl, p, a, c, dx, fl, ep, hi, hcl, hfm, hlk, ea⟩ := own_fld r re ho
    obtain ⟨b0, eb0, vs0, hv0, _⟩ := r.obj k' _ hl
    rw [ea] at eb0; cases eb0
    refine ⟨.ref p, ep, p, _, dx, fl, .ref a, rfl, hi, hcl.1, hcl.2 _ hfm, hlk, .inl ⟨rfl, vs0, SqL.of hv0⟩, onS r re hb fun b S1 H1 w x1 r1 re1 rb hb1 => ?_⟩
    split at hb1
    · rename_i d
      split at hb1
      · rename_i hlt
        obtain ⟨a1, ea1, vs, hv, q⟩ := r1.obj k' _ hl
        have haa : a1 = a := by
          obtain ⟨ns, e2⟩ := x1.as
          rw [e2, List.getElem?_append_left (List.getElem?_eq_some_iff.mp ea).1, ea] at ea1
          exact (Option.some.inj ea1).symm
        subst haa
        refine ⟨a1, vs, w, rfl, rfl, hv, ?_, ?_⟩
        · rw [q.length]
          exact Nat.lt_of_lt_of_le (by simpa [Nat.blt_eq] using hlt) lim_le
        · exact hb1 S1 σ _ (ext_write (List.mem_of_getElem? ea1) (r1.nz ea1 hl)) (r1.write ea1 (r1.nz ea1 hl) (q.append (.cons rb .nil))) (re1.ext r1 (ext_write (List.mem_of_getElem? ea1) (r1.nz ea1 hl)))
      · exact hb1.elim
    · exact hb1.elim
  · exact hb.elim
theorem RVs.dropLast {K : PySem.W.Frag} {S : Sg} {H : Hp} : ∀ {ds : List Bk.D} {vs : List V}, RVs K S H ds vs → RVs K S H ds.dropLast vs.dropLast
  | [], vs, q => by
    unfold RVs at q
    rw [q]
    exact .nil
  | [d], vs, q => by
    obtain ⟨v, t, rfl, q1, q2⟩ := RVs.of_cons q
    unfold RVs at q2
    rw [q2]
    exact .nil
  | d :: d2 :: ds, vs, q => by
    obtain ⟨v, t, rfl, q1, q2⟩ := RVs.of_cons q
    obtain ⟨v2, t2, rfl, q3, q4⟩ := RVs.of_cons q2
    exact .cons q1 (RVs.dropLast (ds := d2 :: ds) (.cons q3 q4))
theorem s_fpp (C : Cok X N sc true E k G gc cl) {s f : Nat} {y : Str} {p1 p2 ap cp pp : Pos} (h2 : (ap.endLine == cp.line) = true) (h4 : mE G N (.var s) sc (.Name y p1) = true) :
    PS X (.Expr (.Call (.Attribute (.Attribute (.Name y p1) (fln f) p2) "pop" ap) [] [] cp) pp) (tS X.K X.mg G gc cl wn E (.fpp s f)) := by
  refine PS.imp (ps_expr (pe_bm0 PySem.F.plainAttrs_list PySem.F.slot_list_pop PySem.F.type_list_pop mt_pop (pe_fld (C.pev h4) (attrBase rfl)) (attrBase rfl) h2) (swaps_no rfl)) fun D σ H q => ?_
  obtain ⟨S, e, h, r, re, hb⟩ := q
  unfold exS at hb
  split at hb
  · rename_i k' xs ho
    obtain ⟨hl, p, a, c, dx, fl, ep, hi, hcl, hfm, hlk, ea⟩ := own_fld r re ho
    obtain ⟨b0, eb0, vs0, hv0, q⟩ := r.obj k' _ hl
    rw [ea] at eb0; cases eb0
    split at hb
    · rename_i he
      have hne : vs0 ≠ [] := by
        rintro rfl
        have := q.length
        cases xs with
        | nil => simp at he
        | cons => simp at this
      have hg : vs0[vs0.length - 1]? = some (vs0.getLast hne) := by rw [← List.getLast?_eq_getElem?, List.getLast?_eq_some_getLast hne]
      refine ⟨.ref p, ep, p, _, dx, fl, .ref a, rfl, hi, hcl.1, hcl.2 _ hfm, hlk, .inl ⟨rfl, vs0, SqL.of hv0⟩, a, vs0, _, rfl, rfl, hv0, hg, ?_⟩
      exact hb S σ _ (ext_write (List.mem_of_getElem? ea) (r.nz ea hl)) (r.write ea (r.nz ea hl) q.dropLast) (re.ext r (ext_write (List.mem_of_getElem? ea) (r.nz ea hl)))
    · exact hb.elim
  · exact hb.elim
theorem memo_inv {c j s k1 k2 : Nat} {body : Ss} {val : Ex} {e : En} {h : Hq} {P : Fl → Prop} (hb : (exSs gc cl wn (.cons (.memo c j s k1 k2 body val) .nil) e h).All P) :
    ∃ fs x1 x2 e1 h1 v, h = [] ∧ e.getD s none = some (.d (.obj c fs)) ∧ e.getD k1 none = some (.d x1) ∧ e.getD k2 none = some (.d x2) ∧ exSs gc cl wn body e [] = .ret (.nx e1 h1) ∧ evE gc cl val e1 h1 = .ret (.ok (.d v)) ∧
      e1.getD s none = some (.d (.obj c fs)) ∧ e1.getD k1 none = some (.d x1) ∧ e1.getD k2 none = some (.d x2) ∧ memB c j (.obj c fs) (.tup [x1, x2]) v = true ∧ P (.rt (.d v) []) := by
  unfold exSs at hb
  have hb := F.All_bind.mp hb
  unfold exS at hb
  split at hb
  · split at hb
    · rename_i c' fs x1 x2 q1 q2 q3
      split at hb
      · rename_i hc
        have hc := Nat.eq_of_beq_eq_true hc
        subst hc
        split at hb
        · rename_i e1 h1 qb
          split at hb
          · rename_i v qv
            split at hb
            · rename_i o1 y1 y2 w1 w2 w3
              split at hb
              · rename_i hm
                simp only [Bool.and_eq_true] at hm
                obtain ⟨⟨⟨m1, m2⟩, m3⟩, m4⟩ := hm
                have m1 := D.same_eq m1
                have m2 := D.same_eq m2
                have m3 := D.same_eq m3
                subst m1 m2 m3
                exact ⟨fs, x1, x2, e1, h1, v, rfl, q1, q2, q3, qb, qv, w1, w2, w3, m4, hb⟩
              · exact hb.elim
            · exact hb.elim
          · exact hb.elim
        · exact hb.elim
      · exact hb.elim
    · exact hb.elim
  · exact hb.elim
theorem look_mem {es : List EnE} {k : NestedKey} {v : V} (h : lookE es k = some v) : ∃ x ∈ es, x.1 = k ∧ x.2.2 = v := by
  unfold lookE at h
  obtain ⟨x, hx, rfl⟩ := Option.map_eq_some_iff.mp h
  exact ⟨x, List.mem_of_find?_eq_some hx, by simpa using List.find?_some hx, rfl⟩
theorem mem_keys {K : PySem.W.Frag} {S : Sg} {H : Hp} {j : Nat} {o : D} {es : List EnE} (g3 : ∀ x ∈ es, ∃ kd vd, nk kd = x.1 ∧ isTup kd = true ∧ D.keyD 8 kd = true ∧ RV K S H kd (.ref x.2.1) ∧ isScal vd = true ∧ RV K S H vd x.2.2 ∧ MF.f j o kd = some vd) : KeysOk K H es := fun x hx => by
  obtain ⟨kd, vd, z1, z2, z3, z4, _⟩ := g3 x hx
  rw [← z1]
  exact ⟨RV.nis 8 kd _ z3 z4, nk_depth 8 kd z3⟩
theorem getD_sl {K : PySem.W.Frag} {S : Sg} {H : Hp} {e : En} {σ : L2.St} {i : Nat} {v : Vv} (re : RelE K S H e σ) (h : e.getD i none = some v) : ∃ w, σ[i]? = some (some w) ∧ RW K S H v w := re.sl i v (getD_some h)
theorem obj_tbl {K : PySem.W.Frag} {S : Sg} {H : Hp} {c j : Nat} {fs : List D} {w : V} (q : RV K S H (.obj c fs) w) (hj : j < cm c) : ∃ a dx fl d, w = .ref a ∧ H a = some (.ins (He.ga K (cnm c)) dx fl) ∧ Cls K (He.ga K (cnm c)) ∧ NoAttr K (He.ga K (cnm c)) (tnm c j) ∧ fl.lookup (tnm c j) = some (.ref d) ∧ S.mm d (8 * c + j) (.obj c fs) := by
  unfold RV at q
  obtain ⟨a, dx, fl, vs, ts, e, t, f, l1, l2, fo, mm, q⟩ := q
  have hj' : j < ts.length := by rw [l2]; exact hj
  exact ⟨a, dx, fl, ts[j], e, t, fo.cl.1, fo.cl.2 _ (List.mem_of_getElem? (clN_tbl hj)), fo.tbl j _ (List.getElem?_eq_getElem hj'), mm j _ (List.getElem?_eq_getElem hj')⟩
theorem ext_end' {K : PySem.W.Frag} {S S1 : Sg} {H H1 : Hp} (r : RelH K S H []) (x : Ext S H S1 H1) : Ext S H (S1.callee true) H1 where
  as := ⟨[], by rw [List.length_eq_zero_iff.mp r.len]; rfl⟩
  kp := x.kp
  na := fun a o q n m => by cases m
  fz := fun a m => .inl (x.fz a m)
  nf := fun a o q n m => by
    rcases m with m | ⟨_, m⟩
    · exact x.nf a o q n m
    · have := x.na a o q n m
      rw [List.length_eq_zero_iff.mp r.len] at this
      cases this
  fr := x.fr
  sc := x.sc
  tw := x.tw
  nt := x.nt
  mm := x.mm
  nm := x.nm
  fk := x.fk
theorem s_memo (C : Cok X N sc true E k G gc cl) {c j s k1 k2 : Nat} {body : Ss} {val : Ex} {o1 o2 o3 a1 a2 a3 b1 b2 b3 v : PySem.Expr} {q1 q2 q3 q4 q5 q6 q7 q8 q9 q10 q11 q12 : Pos} {m1 m2 m3 : Nat} {init rest : List Stmt} {u : TS}
    (ho1 : mE G N (.var s) sc o1 = true) (ho2 : mE G N (.var s) sc o2 = true) (ho3 : mE G N (.var s) sc o3 = true) (ha1 : mE G N (.var k1) sc a1 = true) (ha2 : mE G N (.var k1) sc a2 = true) (ha3 : mE G N (.var k1) sc a3 = true) (hb1 : mE G N (.var k2) sc b1 = true) (hb2 : mE G N (.var k2) sc b2 = true) (hb3 : mE G N (.var k2) sc b3 = true)
    (no1 : isNm o1 = true) (no2 : isNm o2 = true) (no3 : isNm o3 = true) (na1 : isNm a1 = true) (na2 : isNm a2 = true) (na3 : isNm a3 = true) (nb1 : isNm b1 = true) (nb2 : isNm b2 = true) (nb3 : isNm b3 = true)
    (hv : notCmp v = true) (hval : mE G N val sc v = true) (hbd : ∀ (rest : List Stmt) (u : TS), PSs X rest u → PSs X (init ++ rest) (tSeq (tSs X.K X.mg G gc cl wn E body) u)) (hrest : PSs X rest u) :
    PSs X (.If (.Compare (.Tuple [a1, b1] m1 q1) [.NotIn] [.Attribute o1 (tnm c j) q2] q3) (init ++ [.Assign [.Subscript (.Attribute o2 (tnm c j) q4) (.Tuple [a2, b2] m2 q5) q6] v q7]) [] q8 :: .Return (some (.Subscript (.Attribute o3 (tnm c j) q9) (.Tuple [a3, b3] m3 q10) q11)) q12 :: rest) (tSeq (tSs X.K X.mg G gc cl wn E (.cons (.memo c j s k1 k2 body val) .nil)) u) := by
  have hu : X.A.units + 9 < cLine := by have := C.room.un; omega
  have st : ∀ {e : PySem.Expr} {es : List PySem.Expr}, isNm e = true → starEach (e :: es) X.env = (false, eval e X.env) :: starEach es X.env := fun {e es} h => star_cons (by cases e <;> first | rfl | (simp [isNm] at h))
  have ab : ∀ {e : PySem.Expr} {f : Str}, isNm e = true → attributeBase e f X.env (eval e X.env) = eval e X.env := fun {e f} h => attrBase (by cases e <;> first | rfl | (simp [isNm] at h))
  refine PSs.imp (pss_cons (ps_if (pt_cmp (pc_nnotin hu (pe_tup (pa_cons (C.pev ha1) (pa_cons (C.pev hb1) pa_nil (st nb1)) (st na1))) (pe_fld (C.pev ho1) (ab no1))) rfl)
    (hbd _ _ (pss_one (ps_nput hu (pe_fld (C.pev ho2) (ab no2)) (pe_tup (pa_cons (C.pev ha2) (pa_cons (C.pev hb2) pa_nil (st nb2)) (st na2))) (sE val X sc true E v C hval) (swaps_no hv)))) pss_nil)
    (pss_cons (ps_ret (pe_nget hu (pe_fld (C.pev ho3) (ab no3)) (pe_tup (pa_cons (C.pev ha3) (pa_cons (C.pev hb3) pa_nil (st nb3)) (st na3))) (fun _ _ => rfl))) hrest)) fun D σ H q => ?_
  obtain ⟨S, e, h, r, re, hb⟩ := q
  obtain ⟨fs, x1, x2, e1, h1, vd, rfl, g1, g2, g3, gb, gv, w1, w2, w3, hm, hP⟩ := memo_inv hb
  unfold memB at hm
  split at hm
  · rename_i vd' hf
    simp only [Bool.and_eq_true] at hm
    obtain ⟨⟨⟨⟨hm1, hm2⟩, hm3⟩, hm4⟩, hm5⟩ := hm
    have hm1 := Bk.D.same_eq hm1
    subst hm1
    have hj : j < cm c := by simpa [Nat.blt_eq] using hm5
    obtain ⟨ws, es_, qs⟩ := getD_sl re g1
    obtain ⟨wa, ea, qa⟩ := getD_sl re g2
    obtain ⟨wb, eb, qb⟩ := getD_sl re g3
    have qs : RV X.K S H (.obj c fs) ws := qs
    have qa : RV X.K S H x1 wa := qa
    have qb : RV X.K S H x2 wb := qb
    -- the key, the table
    refine ⟨wa, ea, wb, eb, by show 2 ≤ sizeLine; decide, fun p hp => ⟨ws, es_, ?_⟩⟩
    have xn : Ext S H S (upd H p (.tup [wa, wb])) := ext_new hp
    have rn : RelH X.K S (upd H p (.tup [wa, wb])) [] := r.new hp
    have ren := re.ext r xn
    have keyAt : ∀ {S' : Sg} {H' : Hp} {p' : Addr}, H' p' = some (.tup [wa, wb]) → RV X.K S' H' x1 wa → RV X.K S' H' x2 wb → RV X.K S' H' (.tup [x1, x2]) (.ref p') := fun {S' H' p'} z1 z2 z3 => by
      unfold RV
      exact ⟨p', [wa, wb], rfl, .inl (.inl z1), .cons z2 (.cons z3 .nil)⟩
    obtain ⟨p0, dx, fl, d, rfl, i1, i2, i3, i4, i5⟩ := obj_tbl (RV.ext r xn _ _ qs) hj
    obtain ⟨es, f1, f2, f3⟩ := rn.mem _ _ _ i5
    have kq : RV X.K S (upd H p (.tup [wa, wb])) (.tup [x1, x2]) (.ref p) := keyAt upd_same (RV.ext r xn _ _ qa) (RV.ext r xn _ _ qb)
    refine ⟨p0, _, dx, fl, .ref d, rfl, i1, i2, i3, i4, d, es, nk (.tup [x1, x2]), rfl, ⟨by rw [C.pw.1, C.pw.2]; exact f1, mem_keys f3, p, rfl, RV.nis 8 _ _ hm4 kq, nk_depth 8 _ hm4⟩, _, rfl, ?_⟩
    cases hl : lookE es (nk (.tup [x1, x2])) with
    | some v0 =>
      -- it is there
      refine iteF ?_
      obtain ⟨y, hy, y1, y2⟩ := look_mem hl
      obtain ⟨kd, vd', z1, z2, z3, z4, z5, z6, z7⟩ := f3 y hy
      have ek : kd = .tup [x1, x2] := nk_inj 8 8 _ _ z3 hm4 (by rw [z1, y1])
      subst ek
      rw [hf] at z7
      cases z7
      rw [y2] at z6
      refine ⟨.ref p0, es_, p0, _, dx, fl, .ref d, rfl, i1, i2, i3, i4, wa, ea, wb, eb, by show 2 ≤ sizeLine; decide, fun p' hp' => ?_⟩
      have xn' : Ext S (upd H p (.tup [wa, wb])) S (upd (upd H p (.tup [wa, wb])) p' (.tup [wa, wb])) := ext_new hp'
      have rn' := rn.new (o := .tup [wa, wb]) hp'
      refine ⟨d, es, nk (.tup [x1, x2]), v0, rfl, ⟨by rw [C.pw.1, C.pw.2, upd_ne (ne_of_none f1 hp')]; exact f1, mem_keys (S := S) (j := 8 * c + j) (o := .obj c fs) fun x hx => ?_, p', rfl, RV.nis 8 _ _ hm4 (keyAt (S' := S) upd_same (RV.ext rn xn' _ _ (RV.ext r xn _ _ qa)) (RV.ext rn xn' _ _ (RV.ext r xn _ _ qb))), nk_depth 8 _ hm4⟩, hl, ?_⟩
      · obtain ⟨kd, vd', z1, z2, z3, z4, z5, z6, z7⟩ := f3 x hx
        exact ⟨kd, vd', z1, z2, z3, RV.ext rn xn' _ _ z4, z5, RV.ext rn xn' _ _ z6, z7⟩
      · exact hP S v0 _ (xn.trans xn') rn' (RV.ext rn xn' _ _ z6)
    | none =>
      refine iteT ?_
      refine ⟨S, e, [], rn, ren, ?_⟩
      rw [gb]
      intro S1 σ1 H1 x1' r1 re1
      have x1' : Ext S (upd H p (.tup [wa, wb])) S1 H1 := x1'
      refine ⟨S1, e1, h1, r1, re1, ?_⟩
      rw [gv]
      intro S2 H2 x2' r2 wv rv
      have re2 := re1.ext r1 x2'
      have rv : RV X.K S2 H2 vd' wv := rv
      obtain ⟨ws2, es2, qs2⟩ := getD_sl re2 w1
      obtain ⟨wa2, ea2, qa2⟩ := getD_sl re2 w2
      obtain ⟨wb2, eb2, qb2⟩ := getD_sl re2 w3
      have qs2 : RV X.K S2 H2 (.obj c fs) ws2 := qs2
      have qa2 : RV X.K S2 H2 x1 wa2 := qa2
      have qb2 : RV X.K S2 H2 x2 wb2 := qb2
      obtain ⟨p2, dx2, fl2, d2, rfl, t1, t2, t3, t4, t5⟩ := obj_tbl qs2 hj
      refine ⟨.ref p2, es2, p2, _, dx2, fl2, .ref d2, rfl, t1, t2, t3, t4, wa2, ea2, wb2, eb2, by show 2 ≤ sizeLine; decide, fun p3 hp3 => ?_⟩
      have xn3 : Ext S2 H2 S2 (upd H2 p3 (.tup [wa2, wb2])) := ext_new hp3
      have rn3 : RelH X.K S2 (upd H2 p3 (.tup [wa2, wb2])) h1 := r2.new hp3
      obtain ⟨es3, c1, c2, c3⟩ := rn3.mem _ _ _ t5
      have kq3 : RV X.K S2 (upd H2 p3 (.tup [wa2, wb2])) (.tup [x1, x2]) (.ref p3) := by
        unfold RV
        exact ⟨p3, [wa2, wb2], rfl, .inl (.inl upd_same), .cons (RV.ext r2 xn3 _ _ qa2) (.cons (RV.ext r2 xn3 _ _ qb2) .nil)⟩
      refine ⟨d2, es3, nk (.tup [x1, x2]), rfl, ⟨by rw [C.pw.1, C.pw.2]; exact c1, mem_keys c3, p3, rfl, RV.nis 8 _ _ hm4 kq3, nk_depth 8 _ hm4⟩, mem_len (j := 8 * c + j) (o := .obj c fs) c2 (fun x hx => ?_), fun b hbb => ?_⟩
      · obtain ⟨kd, vd', z1, z2, z3, z4, z5, z6, z7⟩ := c3 x hx
        exact ⟨kd, z1, by rw [z7]; rfl⟩
      cases hbb
      rw [C.pw.1, C.pw.2]
      have rs := rn3.store (b := p3) (v := wv) t5 c1 c2 c3 hm3 hm4 kq3 hm2 (RV.ext r2 xn3 _ _ rv) hf
      have xs : Ext S2 (upd H2 p3 (.tup [wa2, wb2])) S2 (upd (upd H2 p3 (.tup [wa2, wb2])) d2 (DicO PWc.P PWc.w d2 (putE es3 (nk (.tup [x1, x2])) p3 wv))) := ext_mem ⟨_, _, t5⟩ nt_dic
      -- the answer
      have t1' : upd H2 p3 (.tup [wa2, wb2]) p2 = some (.ins (He.ga X.K (cnm c)) dx2 fl2) := by rw [upd_ne (ne_of_none t1 hp3)]; exact t1
      have hpd : p2 ≠ d2 := ne_of t1' c1 (fun z => nomatch z)
      refine ⟨.ref p2, es2, p2, _, dx2, fl2, .ref d2, rfl, by rw [upd_ne hpd]; exact t1', t2, t3, t4, wa2, ea2, wb2, eb2, by show 2 ≤ sizeLine; decide, fun p4 hp4 => ?_⟩
      have xn4 : Ext S2 (upd (upd H2 p3 (.tup [wa2, wb2])) d2 (DicO PWc.P PWc.w d2 (putE es3 (nk (.tup [x1, x2])) p3 wv))) S2 (upd (upd (upd H2 p3 (.tup [wa2, wb2])) d2 (DicO PWc.P PWc.w d2 (putE es3 (nk (.tup [x1, x2])) p3 wv))) p4 (.tup [wa2, wb2])) := ext_new hp4
      have rn4 := rs.new (o := .tup [wa2, wb2]) hp4
      have xs4 := xs.trans xn4
      have kq4 : RV X.K S2 (upd (upd (upd H2 p3 (.tup [wa2, wb2])) d2 (DicO PWc.P PWc.w d2 (putE es3 (nk (.tup [x1, x2])) p3 wv))) p4 (.tup [wa2, wb2])) (.tup [x1, x2]) (.ref p4) := by
        unfold RV
        exact ⟨p4, [wa2, wb2], rfl, .inl (.inl upd_same), .cons (RV.ext rn3 xs4 _ _ (RV.ext r2 xn3 _ _ qa2)) (.cons (RV.ext rn3 xs4 _ _ (RV.ext r2 xn3 _ _ qb2)) .nil)⟩
      have hd4 : p4 ≠ d2 := fun z => by rw [z, upd_same] at hp4; cases hp4
      refine ⟨d2, putE es3 (nk (.tup [x1, x2])) p3 wv, nk (.tup [x1, x2]), wv, rfl, ⟨by rw [upd_ne (Ne.symm hd4), upd_same], fun x hx => ?_, p4, rfl, RV.nis 8 _ _ hm4 kq4, nk_depth 8 _ hm4⟩, lookE_put _ _ _ _, ?_⟩
      · rcases putE_mem hx with ⟨z1, z2, z3⟩ | hx
        · rw [z1]
          refine ⟨?_, nk_depth 8 _ hm4⟩
          rcases z3 with z3 | ⟨y', hy', z4, z5⟩
          · rw [z3]
            exact RV.nis 8 _ _ hm4 (RV.ext rn3 xs4 _ _ kq3)
          · obtain ⟨kd', vd', y1, y2, y3, y4, y5, y6, y7⟩ := c3 y' hy'
            have q0 := RV.nis 8 _ _ y3 (RV.ext rn3 xs4 _ _ y4)
            rw [y1.trans z4, z5] at q0
            exact q0
        · obtain ⟨kd', vd', y1, y2, y3, y4, y5, y6, y7⟩ := c3 x hx
          rw [← y1]
          exact ⟨RV.nis 8 _ _ y3 (RV.ext rn3 xs4 _ _ y4), nk_depth 8 _ y3⟩
      · have xx := (((xn.trans x1').trans x2').trans xn3).trans xs4
        exact hP (S2.callee true) wv _ (ext_end' r xx) (rn4.callee true) (RV.mono (S := S2) (S1 := S2.callee true) (fun a m => Or.inl m) rfl (fun _ _ m => m) (fun _ _ _ m => m) _ _ (RV.ext rn3 xs4 _ _ (RV.ext r2 xn3 _ _ rv)))
  · cases hm
end
end Bk
namespace Bk
open PySem PySem.Spec PyProof.Rows L2
variable [MF] [PWc]
section
variable {k : Nat} {G : Nm} {gc : Gc} {cl : Cl} {N : List Str} {X : Cx} {sc : Scope} {E : XK} {wn : Nat}
def notMem : Sx → Bool
  | .memo .. => false
  | .any => false
  | .frz _ => false
  | _ => true
theorem mSs_cons {s : Sx} {ss : Ss} {st : List Stmt} (hs : notMem s = true) (h : mSs G N sc (.cons s ss) st = true) : ∃ t ts, st = t :: ts ∧ mS G N sc s t = true ∧ mSs G N sc ss ts = true := by
  cases s with
  | memo => cases hs
  | any => cases hs
  | frz => cases hs
  | _ =>
    unfold mSs at h
    split at h
    · rw [Bool.and_eq_true] at h
      exact ⟨_, _, rfl, h.1, h.2⟩
    · cases h
theorem consA {s : Sx} {ss : Ss} {t : Stmt} {ts rest : List Stmt} {u : TS} (h1 : PS X t (tS X.K X.mg G gc cl wn E s)) (h2 : PSs X (ts ++ rest) (tSeq (tSs X.K X.mg G gc cl wn E ss) u)) : PSs X (t :: ts ++ rest) (tSeq (tSs X.K X.mg G gc cl wn E (.cons s ss)) u) := by
  refine PSs.imp (pss_cons h1 h2) fun D σ H q => ?_
  obtain ⟨S, e, h, r, re, hb⟩ := q
  unfold exSs at hb
  refine ⟨S, e, h, r, re, F.All.imp (fun f p => ?_) (F.All_bind.mp hb)⟩
  cases f with
  | nx e1 h1 => exact fun S' σ' H' x' r' re' => ⟨S', e1, h1, r', re', F.All.imp (fun z pz => pz.up x' z) p⟩
  | rt v h1 => exact p
  | bk e1 h1 => exact p
  | ct e1 h1 => exact p
  | ex c => exact p
theorem ofA {s : Ss} {st : List Stmt} (p : PSs X (st ++ []) (tSeq (tSs X.K X.mg G gc cl wn E s) tNext)) : PSs X st (tSs X.K X.mg G gc cl wn E s) := by
  rw [List.append_nil] at p
  exact p
theorem frz_ok {K : PySem.W.Frag} {mg : Str → Option Value} {S : Sg} {H : Hp} {h : Hq} {e : En} {σ : L2.St} {i : Nat} {P : Fl → Prop} (r : RelH K S H h) (re : RelE K S H e σ) (hb : (exS gc cl wn (.frz i) e h).All P) :
    ∃ S' e' h', Ext S H S' H ∧ RelH K S' H h' ∧ RelE K S' H e' σ ∧ P (.nx e' h') := by
  unfold exS at hb
  split at hb
  rotate_left
  · exact hb.elim
  rename_i n hn
  obtain ⟨a, ea, sa⟩ := own_at (h := h) re hn
  have fin : ∀ {d : D} {S' : Sg} {h' : Hq}, Ext S H S' H → RelH K S' H h' → RV K S' H d (.ref a) → RelE K S' H (e.set i (some (.d d))) σ := fun {d S' h'} x r' rv => by
    have re' := re.ext r x
    refine ⟨by rw [List.length_set]; exact re'.len, fun j y ey => ?_⟩
    by_cases hj : i = j
    · subst hj
      have hl : i < e.length := (List.getElem?_eq_some_iff.mp (getD_some hn)).1
      rw [List.getElem?_set_self hl] at ey
      cases ey
      exact ⟨.ref a, ea, rv⟩
    · rw [List.getElem?_set_ne hj] at ey
      exact re'.sl j y ey
  split at hb
  · rename_i kvs hd
    split at hb
    · obtain ⟨r', rv⟩ := r.move sa hd
      have x : Ext S H (S.frz a) H := ext_frzO (List.mem_of_getElem? sa)
      exact ⟨_, _, _, x, r', fin x r' rv, hb⟩
    · exact hb.elim
  · rename_i xs hd
    split at hb
    · obtain ⟨r', rv⟩ := r.moveL sa hd
      have x : Ext S H (S.frz a) H := ext_frzO (List.mem_of_getElem? sa)
      exact ⟨_, _, _, x, r', fin x r' rv, hb⟩
    · exact hb.elim
  · rename_i m hd
    split at hb
    · rename_i xs hm
      split at hb
      · rename_i hne
        have hne : m ≠ n := fun z => by
          rw [z, Nat.beq_refl] at hne; cases hne
        obtain ⟨b, eb, vs, hv, q⟩ := r.obj n _ hd
        rw [sa] at eb; cases eb
        obtain ⟨v, t, rfl, ⟨c, ec, rfl⟩, q2⟩ := q
        have q2 : t = [] := q2
        subst q2
        obtain ⟨r', rv⟩ := r.moveL ec hm
        have x : Ext S H (S.frz c) H := ext_frzO (List.mem_of_getElem? ec)
        have hn' : (h.set m .gone)[n]? = some (.lsv [.r m]) := by rw [List.getElem?_set_ne hne]; exact hd
        exact ⟨_, _, _, x, r'.settle sa hn' rfl hv (.cons rv .nil), re.ext r x, hb⟩
      · exact hb.elim
    · exact hb.elim
  · exact hb.elim
mutual
theorem sS (C : Cok X N sc true E k G gc cl) (po : PassesOwn (model X.prog X.w) X.A X.env X.xe) : ∀ (s : Sx) (st : Stmt), mS G N sc s st = true → PS X st (tS X.K X.mg G gc cl wn E s)
  | .set tg x, st, h => by
    unfold mS at h
    split at h
    · rename_i ts kk p e pp
      simp only [Bool.and_eq_true] at h
      obtain ⟨⟨⟨h1, h2⟩, h3⟩, h4⟩ := h
      refine PS.imp (ps_asg (sE x X sc true E e C h4) (sTg C tg _ h3) (swapSole_no h2) (swapped_no h1) rfl) fun D σ H q => ?_
      obtain ⟨S, e, h, r, re, hb⟩ := q
      unfold exS at hb
      refine onS r re hb fun a S1 H1 v x1 r1 re1 ra hb1 => ?_
      split at hb1
      · rename_i d
        split at hb1
        · rename_i e1 ea
          exact ⟨S1, e, h, d, e1, r1, re1, ra, ea, fun σ' re' _ => hb1 S1 σ' H1 (Ext.refl _ _) r1 re'⟩
        · exact hb1.elim
      · exact hb1.elim
    · cases h
  | .put i r, st, h => by
    unfold mS at h
    split at h
    · rename_i x p e pp
      simp only [Bool.and_eq_true, decide_eq_true_eq] at h
      obtain ⟨⟨⟨⟨h1, h2⟩, h3⟩, h4⟩, h5⟩ := h
      have hN : X.N.Nodup := by rw [C.hN]; exact C.nd
      have hi : X.N[i]? = some x := by rw [C.hN]; exact h1
      by_cases hc : notCmp e = true
      · exact PS.imp (ps_set hN hi (C.loc h2) (sR C r e h5) (swaps_no hc) (C.hf x)) fun D σ H q => put_ok q
      · cases e with
        | ListComp elt gs scope pos =>
          unfold swOk at h4
          rcases Bool.or_eq_true_iff.mp h4 with h4 | h4
          · exact PS.imp (ps_set hN hi (C.loc h2) (sR C r _ h5) (sw_cell (by rw [C.hs]; exact isCel_ok h4)) (C.hf x)) fun D σ H q => put_ok q
          · simp only [Bool.and_eq_true, Bool.not_eq_true'] at h4
            cases r with
            | ex y => exact put_lc C h1 h4.1.1 h3 h4.1.2 h4.2 h5
            | new es => simp [mR] at h5
            | rep es n => simp [mR] at h5
            | ite c a b => simp [mR] at h5
            | mko f es => simp [mR] at h5
            | wcl c f i es => simp [mR, mWc] at h5
            | rsw c f i es => simp [mR] at h5
            | bop o a b => simp [mR] at h5
            | cmp o a b => simp [mR] at h5
            | and a b => simp [mR] at h5
            | dnw => simp [mR] at h5
            | dn1 a b => simp [mR] at h5
            | nwv => simp [mR] at h5
        | SetComp => simp [swOk] at h4
        | DictComp => simp [swOk] at h4
        | _ => exact absurd rfl hc
    · cases h
  | .par is rs, st, h => by
    unfold mS at h
    split at h
    · rename_i x px y py kt pt a b k2 pt2 pp
      split at h
      · rename_i i j r s
        simp only [Bool.and_eq_true, decide_eq_true_eq] at h
        obtain ⟨⟨⟨⟨⟨⟨h1, h2⟩, h3⟩, h4⟩, h5⟩, h6⟩, h7⟩ := h
        have hN : X.N.Nodup := by rw [C.hN]; exact C.nd
        rcases Bool.or_eq_true_iff.mp h5 with h5 | h5
        rotate_left
        · unfold swnOk at h5
          simp only [Bool.and_eq_true] at h5
          obtain ⟨⟨⟨⟨l1, l2⟩, ha⟩, hb⟩, l3⟩ := h5
          refine PS.imp (ps_asg (pe_tup (pa_cons (sR C r a h6) (pa_cons (sR C s b h7) pa_nil (star_cons hb)) (star_cons ha))) (pg_tup C.calm (pgs_cons (pg_name hN (by rw [C.hN]; exact h1) (C.loc l1) (C.hf x)) (pgs_cons (pg_name hN (by rw [C.hN]; exact h2) (C.loc l2) (C.hf y)) pgs_nil))) (swapSole_no rfl) (swapped_cell C.hs l3) rfl) fun D σ H q => ?_
          obtain ⟨S, e, h, r, re, hb⟩ := q
          unfold exS evRs at hb
          rw [onE_bnd] at hb
          refine onSR r re hb fun a S1 H1 v x1 r1 re1 ra hb1 => ?_
          unfold evRs at hb1
          rw [onE_bnd, onE_bnd] at hb1
          refine onSR r1 re1 hb1 fun b S2 H2 w x2 r2 re2 rb hb2 => ⟨by show 2 ≤ sizeLine; decide, fun p hp => ⟨p, [v, w], rfl, .inl (.inl upd_same), rfl, v, [w], rfl, w, [], rfl, rfl, ?_⟩⟩
          unfold evRs at hb2
          have hb2 : (match sets [i, j] [a.1, b.1] e with
            | some e1 => F.ret (Fl.nx e1 b.2)
            | none => .stk).All (PoS X.K X.mg G S2 H2 D E) := hb2
          have xn : Ext S2 H2 S2 (upd H2 p (.tup [v, w])) := ext_new hp
          split at hb2
          · rename_i e1 es
            unfold sets at es
            split at es
            · unfold sets at es
              split at es
              · unfold sets at es
                cases es
                exact hb2 S2 _ _ xn (r2.new hp) (((re2.ext r2 xn).set (RW.ext r2 xn a.1 v (RW.ext r1 x2 a.1 v ra))).set (RW.ext r2 xn b.1 w rb))
              · cases es
            · cases es
          · exact hb2.elim
        have h5' := h5
        unfold swpOk at h5'
        simp only [Bool.and_eq_true, Bool.not_eq_true', List.all_cons, List.all_nil, Bool.and_true] at h5'
        obtain ⟨⟨⟨⟨_, ⟨hx, _⟩, hy, _⟩, ha, hb⟩, _⟩, _⟩ := h5'
        refine PS.imp (ps_par C.calm hN (by rw [C.hN]; exact h1) (by rw [C.hN]; exact h2) h3 (by rw [C.hs]; exact isLoc_ok hx) (by rw [C.hs]; exact isLoc_ok hy)
          (pa_cons (sR C r a h6) (pa_cons (sR C s b h7) pa_nil (star_cons hb)) (star_cons ha)) (swapped_two C.hs h4 h5) (swapSole_no rfl)) fun D σ H q => ?_
        obtain ⟨S, e, h, r, re, hb⟩ := q
        unfold exS evRs at hb
        rw [onE_bnd] at hb
        refine onSR r re hb fun a S1 H1 v x1 r1 re1 ra hb1 => ?_
        unfold evRs at hb1
        rw [onE_bnd, onE_bnd] at hb1
        refine onSR r1 re1 hb1 fun b S2 H2 w x2 r2 re2 rb hb2 => ⟨v, w, rfl, ?_⟩
        unfold evRs at hb2
        have hb2 : (match sets [i, j] [a.1, b.1] e with
          | some e1 => F.ret (Fl.nx e1 b.2)
          | none => .stk).All (PoS X.K X.mg G S2 H2 D E) := hb2
        split at hb2
        · rename_i e1 es
          unfold sets at es
          split at es
          · unfold sets at es
            split at es
            · unfold sets at es
              cases es
              exact hb2 S2 _ H2 (Ext.refl _ _) r2 ((re2.set (RW.ext r1 x2 a.1 v ra)).set rb)
            · cases es
          · cases es
        · exact hb2.elim
      · cases h
    · rename_i x px y py z pz kt pt a b c k2 pt2 pp
      split at h
      · rename_i i j l r s t
        simp only [Bool.and_eq_true, decide_eq_true_eq] at h
        obtain ⟨⟨⟨⟨⟨⟨⟨⟨⟨⟨⟨⟨h1, h2⟩, h3⟩, h4⟩, h5⟩, h6⟩, h7⟩, h8⟩, h9⟩, h10⟩, h11⟩, h12⟩, h13⟩ := h
        have hN : X.N.Nodup := by rw [C.hN]; exact C.nd
        rcases Bool.or_eq_true_iff.mp h10 with h10 | h10
        rotate_left
        · unfold sw3Ok at h10
          simp only [Bool.and_eq_true] at h10
          obtain ⟨⟨⟨⟨⟨⟨l1, l2⟩, l3⟩, ha⟩, hb⟩, hc⟩, l4⟩ := h10
          refine PS.imp (ps_asg (pe_tup (pa_cons (sR C r a h11) (pa_cons (sR C s b h12) (pa_cons (sR C t c h13) pa_nil (star_cons hc)) (star_cons hb)) (star_cons ha))) (pg_tup C.calm (pgs_cons (pg_name hN (by rw [C.hN]; exact h1) (C.loc l1) (C.hf x)) (pgs_cons (pg_name hN (by rw [C.hN]; exact h2) (C.loc l2) (C.hf y)) (pgs_cons (pg_name hN (by rw [C.hN]; exact h3) (C.loc l3) (C.hf z)) pgs_nil)))) (swapSole_no rfl) (swapped_cell3 C.hs l4) rfl) fun D σ H q => ?_
          obtain ⟨S, e, h, r, re, hb⟩ := q
          unfold exS evRs at hb
          rw [onE_bnd] at hb
          refine onSR r re hb fun a S1 H1 v x1 r1 re1 ra hb1 => ?_
          unfold evRs at hb1
          rw [onE_bnd, onE_bnd] at hb1
          refine onSR r1 re1 hb1 fun b S2 H2 w x2 r2 re2 rb hb2 => ?_
          unfold evRs at hb2
          rw [onE_bnd, onE_bnd] at hb2
          refine onSR r2 re2 hb2 fun c S3 H3 u x3 r3 re3 rc hb3 => ⟨by show 3 ≤ sizeLine; decide, fun p hp => ⟨p, [v, w, u], rfl, .inl (.inl upd_same), rfl, v, [w, u], rfl, w, [u], rfl, u, [], rfl, rfl, ?_⟩⟩
          unfold evRs at hb3
          have hb3 : (match sets [i, j, l] [a.1, b.1, c.1] e with
            | some e1 => F.ret (Fl.nx e1 c.2)
            | none => .stk).All (PoS X.K X.mg G S3 H3 D E) := hb3
          have xn : Ext S3 H3 S3 (upd H3 p (.tup [v, w, u])) := ext_new hp
          split at hb3
          · rename_i e1 es
            unfold sets at es
            split at es
            · unfold sets at es
              split at es
              · unfold sets at es
                split at es
                · unfold sets at es
                  cases es
                  exact hb3 S3 _ _ xn (r3.new hp) ((((re3.ext r3 xn).set (RW.ext r3 xn a.1 v (RW.ext r1 (x2.trans x3) a.1 v ra))).set (RW.ext r3 xn b.1 w (RW.ext r2 x3 b.1 w rb))).set (RW.ext r3 xn c.1 u rc))
                · cases es
              · cases es
            · cases es
          · exact hb3.elim
        have h5' := h10
        unfold swpOk at h5'
        simp only [Bool.and_eq_true, Bool.not_eq_true', List.all_cons, List.all_nil, Bool.and_true] at h5'
        obtain ⟨⟨⟨⟨_, ⟨hx, _⟩, ⟨hy, _⟩, hz, _⟩, ha, hb, hc⟩, _⟩, _⟩ := h5'
        refine PS.imp (ps_par3 C.calm hN (by rw [C.hN]; exact h1) (by rw [C.hN]; exact h2) (by rw [C.hN]; exact h3) h4 h5 h6 (by rw [C.hs]; exact isLoc_ok hx) (by rw [C.hs]; exact isLoc_ok hy) (by rw [C.hs]; exact isLoc_ok hz)
          (pa_cons (sR C r a h11) (pa_cons (sR C s b h12) (pa_cons (sR C t c h13) pa_nil (star_cons hc)) (star_cons hb)) (star_cons ha)) (swapped_three C.hs h7 h8 h9 h10) (swapSole_no rfl)) fun D σ H q => ?_
        obtain ⟨S, e, h, r, re, hb⟩ := q
        unfold exS evRs at hb
        rw [onE_bnd] at hb
        refine onSR r re hb fun a S1 H1 v x1 r1 re1 ra hb1 => ?_
        unfold evRs at hb1
        rw [onE_bnd, onE_bnd] at hb1
        refine onSR r1 re1 hb1 fun b S2 H2 w x2 r2 re2 rb hb2 => ?_
        unfold evRs at hb2
        rw [onE_bnd, onE_bnd] at hb2
        refine onSR r2 re2 hb2 fun c S3 H3 u x3 r3 re3 rc hb3 => ⟨v, w, u, rfl, ?_⟩
        unfold evRs at hb3
        have hb3 : (match sets [i, j, l] [a.1, b.1, c.1] e with
          | some e1 => F.ret (Fl.nx e1 c.2)
          | none => .stk).All (PoS X.K X.mg G S3 H3 D E) := hb3
        split at hb3
        · rename_i e1 es
          unfold sets at es
          split at es
          · unfold sets at es
            split at es
            · unfold sets at es
              split at es
              · unfold sets at es
                cases es
                exact hb3 S3 _ H3 (Ext.refl _ _) r3 (((re3.set (RW.ext r1 (x2.trans x3) a.1 v ra)).set (RW.ext r2 x3 b.1 w rb)).set rc)
              · cases es
            · cases es
          · cases es
        · exact hb3.elim
      · cases h
    · rename_i x px y py z pz u pu kt pt a b c d k2 pt2 pp
      split at h
      · rename_i i j l m r s t q
        simp only [Bool.and_eq_true, decide_eq_true_eq] at h
        obtain ⟨⟨⟨⟨⟨⟨⟨⟨h1, h2⟩, h3⟩, h4⟩, h5⟩, h6⟩, h7⟩, h8⟩, h9⟩ := h
        have hN : X.N.Nodup := by rw [C.hN]; exact C.nd
        unfold sw4Ok at h5
        simp only [Bool.and_eq_true] at h5
        obtain ⟨⟨⟨⟨⟨⟨⟨l1, l2⟩, l3⟩, l4⟩, ha⟩, hb⟩, hc⟩, hd⟩ := h5
        refine PS.imp (ps_asg (pe_tup (pa_cons (sR C r a h6) (pa_cons (sR C s b h7) (pa_cons (sR C t c h8) (pa_cons (sR C q d h9) pa_nil (star_cons hd)) (star_cons hc)) (star_cons hb)) (star_cons ha))) (pg_tup C.calm (pgs_cons (pg_name hN (by rw [C.hN]; exact h1) (C.loc l1) (C.hf x)) (pgs_cons (pg_name hN (by rw [C.hN]; exact h2) (C.loc l2) (C.hf y)) (pgs_cons (pg_name hN (by rw [C.hN]; exact h3) (C.loc l3) (C.hf z)) (pgs_cons (pg_name hN (by rw [C.hN]; exact h4) (C.loc l4) (C.hf u)) pgs_nil))))) (swapSole_no rfl) swapped_four rfl) fun D σ H q => ?_
        obtain ⟨S, e, h, r, re, hb⟩ := q
        unfold exS evRs at hb
        rw [onE_bnd] at hb
        refine onSR r re hb fun a S1 H1 v x1 r1 re1 ra hb1 => ?_
        unfold evRs at hb1
        rw [onE_bnd, onE_bnd] at hb1
        refine onSR r1 re1 hb1 fun b S2 H2 w x2 r2 re2 rb hb2 => ?_
        unfold evRs at hb2
        rw [onE_bnd, onE_bnd] at hb2
        refine onSR r2 re2 hb2 fun c S3 H3 u x3 r3 re3 rc hb3 => ?_
        unfold evRs at hb3
        rw [onE_bnd, onE_bnd] at hb3
        refine onSR r3 re3 hb3 fun d S4 H4 y x4 r4 re4 rd hb4 => ⟨by show 4 ≤ sizeLine; decide, fun p hp => ⟨p, [v, w, u, y], rfl, .inl (.inl upd_same), rfl, v, [w, u, y], rfl, w, [u, y], rfl, u, [y], rfl, y, [], rfl, rfl, ?_⟩⟩
        unfold evRs at hb4
        have hb4 : (match sets [i, j, l, m] [a.1, b.1, c.1, d.1] e with
          | some e1 => F.ret (Fl.nx e1 d.2)
          | none => .stk).All (PoS X.K X.mg G S4 H4 D E) := hb4
        have xn : Ext S4 H4 S4 (upd H4 p (.tup [v, w, u, y])) := ext_new hp
        split at hb4
        · rename_i e1 es
          unfold sets at es
          split at es
          · unfold sets at es
            split at es
            · unfold sets at es
              split at es
              · unfold sets at es
                split at es
                · unfold sets at es
                  cases es
                  exact hb4 S4 _ _ xn (r4.new hp) (((((re4.ext r4 xn).set (RW.ext r4 xn a.1 v (RW.ext r1 ((x2.trans x3).trans x4) a.1 v ra))).set (RW.ext r4 xn b.1 w (RW.ext r2 (x3.trans x4) b.1 w rb))).set (RW.ext r4 xn c.1 u (RW.ext r3 x4 c.1 u rc))).set (RW.ext r4 xn d.1 y rd))
                · cases es
              · cases es
            · cases es
          · cases es
        · exact hb4.elim
      · cases h
    · cases h
  | .aug i o x, st, h => by
    unfold mS at h
    split at h
    · rename_i y p1 e pp
      simp only [Bool.and_eq_true, decide_eq_true_eq] at h
      obtain ⟨⟨h1, h2⟩, h3⟩ := h
      have hN : X.N.Nodup := by rw [C.hN]; exact C.nd
      refine PS.imp (ps_aug (i := i) hN (by rw [C.hN]; exact h1) (C.loc h2) (sE x X sc true E e C h3) ip_add (C.hf y)) fun D σ H q => ?_
      obtain ⟨S, e, h, r, re, hb⟩ := q
      unfold exS at hb
      split at hb
      · rename_i a ha
        obtain ⟨w, ew, rw1⟩ := re.sl i _ (getD_some ha)
        refine ⟨w, ew, onS r re hb fun b S1 H1 v x1 r1 re1 rb hb1 => ?_⟩
        have rw2 := RW.ext r x1 _ w rw1
        split at hb1
        · split at hb1
          · rename_i p q
            have e1 : w = .int p := by have := rw2; unfold RW RV at this; exact this
            have e2 : v = .int q := by have := rb; unfold RW RV at this; exact this
            exact ⟨p, q, e1, e2, hb1 S1 _ H1 (Ext.refl _ _) r1 (re1.set (by unfold RW RV; rfl))⟩
          · exact hb1.elim
        · exact hb1.elim
      · exact hb.elim
    · cases h
  | .app i x, st, h => by
    unfold mS at h
    split at h
    · rename_i y p1 m ap e cp pp
      simp only [Bool.and_eq_true, decide_eq_true_eq] at h
      obtain ⟨⟨⟨⟨h1, h2⟩, h3⟩, h4⟩, h5⟩ := h
      subst h1
      have sc1 := star_cons (es := []) (env := X.env) h3
      refine PS.imp (ps_expr (pe_bm PySem.F.plainAttrs_list PySem.F.slot_list_append PySem.F.type_list_append mt_append (sE (.var i) X sc true E _ C h4) (pa_cons (sE x X sc true E e C h5) pa_nil sc1) rfl (by rw [sc1]; rfl) h2 sc1 rfl) (swaps_no rfl)) fun D σ H q => ?_
      obtain ⟨S, e, h, r, re, hb⟩ := q
      unfold exS at hb
      split at hb
      · rename_i n hn
        split at hb
        rotate_left
        · exact hb.elim
        rename_i xs hd
        obtain ⟨a, ea, sa⟩ := own_at (h := h) re hn
        refine ⟨S, e, h, r, re, ?_⟩
        unfold evE
        rw [hn]
        intro S0 H0 x0 r0 v rv
        obtain ⟨a', ea', rfl⟩ := rv
        obtain ⟨b0, eb0, vs0, hv0, _⟩ := r0.obj n _ hd
        rw [ea'] at eb0; cases eb0
        refine ⟨.inl ⟨rfl, vs0, SqL.of hv0⟩, onS r0 (re.ext r x0) (F.All.imp (fun z pz => pz.up x0 z) hb) fun b S1 H1 w x1 r1 re1 rb hb1 => ?_⟩
        split at hb1
        · rename_i d
          split at hb1
          · rename_i hl
            obtain ⟨a1, ea1, vs, hv, q⟩ := r1.obj n _ hd
            have haa : a1 = a' := by
              obtain ⟨ns, e2⟩ := x1.as
              rw [e2, List.getElem?_append_left (List.getElem?_eq_some_iff.mp ea').1, ea'] at ea1
              exact (Option.some.inj ea1).symm
            subst haa
            refine ⟨a1, vs, w, rfl, rfl, hv, ?_, ?_⟩
            · rw [q.length]
              exact Nat.lt_of_lt_of_le (by simpa [Nat.blt_eq] using hl) lim_le
            · exact hb1 S1 σ _ (ext_write (List.mem_of_getElem? ea1) (r1.nz ea1 hd)) (r1.write ea1 (r1.nz ea1 hd) (q.append (.cons rb .nil))) (re1.ext r1 (ext_write (List.mem_of_getElem? ea1) (r1.nz ea1 hd)))
          · exact hb1.elim
        · exact hb1.elim
      · exact hb.elim
    · cases h
  | .ext i x, st, h => by
    unfold mS at h
    split at h
    · rename_i y p1 m ap e cp pp
      simp only [Bool.and_eq_true, decide_eq_true_eq] at h
      obtain ⟨⟨⟨⟨h1, h2⟩, h3⟩, h4⟩, h5⟩ := h
      subst h1
      have sc1 := star_cons (es := []) (env := X.env) h3
      refine PS.imp (ps_expr (pe_bm PySem.F.plainAttrs_list PySem.F.slot_list_extend PySem.F.type_list_extend mt_extend (sE (.var i) X sc true E _ C h4) (pa_cons (sE x X sc true E e C h5) pa_nil sc1) rfl (by rw [sc1]; rfl) h2 sc1 rfl) (swaps_no rfl)) fun D σ H q => ?_
      obtain ⟨S, e, h, r, re, hb⟩ := q
      unfold exS at hb
      split at hb
      · rename_i n hn
        split at hb
        rotate_left
        · exact hb.elim
        rename_i xs hd
        obtain ⟨a, ea, sa⟩ := own_at (h := h) re hn
        refine ⟨S, e, h, r, re, ?_⟩
        unfold evE
        rw [hn]
        intro S0 H0 x0 r0 v rv
        obtain ⟨a', ea', rfl⟩ := rv
        obtain ⟨b0, eb0, vs0, hv0, _⟩ := r0.obj n _ hd
        rw [ea'] at eb0; cases eb0
        refine ⟨.inl ⟨rfl, vs0, SqL.of hv0⟩, onS r0 (re.ext r x0) (F.All.imp (fun z pz => pz.up x0 z) hb) fun b S1 H1 w x1 r1 re1 rb hb1 => ?_⟩
        split at hb1
        · rename_i ds
          split at hb1
          · rename_i hl
            obtain ⟨a1, ea1, vs, hv, q⟩ := r1.obj n _ hd
            have haa : a1 = a' := by
              obtain ⟨ns, e2⟩ := x1.as
              rw [e2, List.getElem?_append_left (List.getElem?_eq_some_iff.mp ea').1, ea'] at ea1
              exact (Option.some.inj ea1).symm
            subst haa
            obtain ⟨b1, ws, rfl, hw, _, qw⟩ := (show RV X.K S1 H1 (.lst ds) w from rb) |> (fun z => by unfold RV at z; exact z)
            refine ⟨a1, b1, vs, ws, rfl, rfl, hv, hw, ?_, ?_⟩
            · rw [q.length, qw.length]
              exact Nat.le_trans (Nat.le_of_ble_eq_true hl) lim_le
            · exact hb1 S1 σ _ (ext_write (List.mem_of_getElem? ea1) (r1.nz ea1 hd)) (r1.write ea1 (r1.nz ea1 hd) (q.append qw)) (re1.ext r1 (ext_write (List.mem_of_getElem? ea1) (r1.nz ea1 hd)))
          · exact hb1.elim
        · exact hb1.elim
      · exact hb.elim
    · cases h
  | .sti i j x, st, h => by
    unfold mS at h
    split at h
    · rename_i y p1 kk p2 e pp
      simp only [Bool.and_eq_true] at h
      obtain ⟨⟨⟨⟨h1, h2⟩, h3⟩, h4⟩, h5⟩ := h
      refine PS.imp (ps_asg (sE x X sc true E e C h5) (pg_sub (sE (.var i) X sc true E _ C h3) (sE j X sc true E kk C h4) set_list (assignSub h1)) (swapSole_no h2) rfl rfl) fun D σ H q => ?_
      obtain ⟨S, e, h, r, re, hb⟩ := q
      unfold exS at hb
      refine onS r re hb fun b S1 H1 w x1 r1 re1 rb hb1 => ?_
      split at hb1
      · rename_i n hn
        refine ⟨S1, e, h, r1, re1, ?_⟩
        unfold evE
        rw [hn]
        intro S2 H2 x2 r2 v rv
        obtain ⟨a', ea', rfl⟩ := rv
        refine onS r2 (re1.ext r1 x2) (F.All.imp (fun z pz => pz.up x2 z) hb1) fun c S3 H3 u x3 r3 re3 rc hb3 => ?_
        split at hb3
        · rename_i d k' xs hd
          split at hb3
          · rename_i m' hm
            obtain ⟨a1, ea1, vs, hv, q⟩ := r3.obj n _ hd
            have haa : a1 = a' := by
              obtain ⟨ns, e2⟩ := x3.as
              rw [e2, List.getElem?_append_left (List.getElem?_eq_some_iff.mp ea').1, ea'] at ea1
              exact (Option.some.inj ea1).symm
            subst haa
            have hu : u = .int k' := by have := rc; unfold RW RV at this; exact this
            refine ⟨a1, vs, k', m', rfl, hu, hv, by rw [q.length]; exact hm, ?_⟩
            exact hb3 S3 σ _ (ext_write (List.mem_of_getElem? ea1) (r3.nz ea1 hd)) (r3.write ea1 (r3.nz ea1 hd) (q.set m' (RW.ext r1 (x2.trans x3) (.d d) w rb))) (re3.ext r3 (ext_write (List.mem_of_getElem? ea1) (r3.nz ea1 hd)))
          · exact hb3.elim
        · exact hb3.elim
      · exact hb1.elim
    · cases h
  | .ife c a b, st, h => by
    unfold mS at h
    split at h
    · rename_i t x y pp
      simp only [Bool.and_eq_true] at h
      refine PS.imp (ps_if (sT c X sc true E t C h.1.1) (ofA (sSsA C po a x [] _ h.1.2 pss_nil)) (ofA (sSsA C po b y [] _ h.2 pss_nil))) fun D σ H q => ?_
      obtain ⟨S, e, h, r, re, hb⟩ := q
      unfold exS at hb
      refine onST r re hb fun k S1 H1 x1 r1 re1 hb1 => ?_
      cases k with
      | true => exact iteT ⟨S1, e, h, r1, re1, hb1⟩
      | false => exact iteF ⟨S1, e, h, r1, re1, hb1⟩
    · cases h
  | .whl c b, st, h => by
    unfold mS at h
    split at h
    · rename_i t x pp
      rw [Bool.and_eq_true] at h
      refine PS.imp (ps_while po (sT c X sc true E t C h.1) (ofA (sSsA C po b x [] _ h.2 pss_nil))) fun D σ H q => ?_
      obtain ⟨S, e, h, r, re, hb⟩ := q
      unfold exS at hb
      exact whl_ok r re wn hb
    · cases h
  | .for_ tg it b, st, h => by
    unfold mS at h
    split at h
    · rename_i t iter x pp
      simp only [Bool.and_eq_true] at h
      obtain ⟨⟨⟨h1, h2⟩, h3⟩, h4⟩ := h
      refine PS.imp (ps_for po C.calm (sI it X sc true E t iter C h3) (sTg C tg t h2) (ofA (sSsA C po b x [] _ h4 pss_nil)) (folded h1)) fun D σ H q => ?_
      obtain ⟨S, e, h, r, re, hb⟩ := q
      unfold exS at hb
      split at hb
      · rename_i hown
        refine onSI r re hb fun xs S1 H1 J x1 r1 re1 it1 hb1 => ?_
        refine for_ok r1 re1 ⟨fun i S2 H2 h2 _ => it1.go i S2 H2 h2 ?_, fun S2 H2 h2 _ => it1.stop S2 H2 h2 ?_, fun i S2 H2 h2 x H' _ => it1.yld i S2 H2 h2 x H' ?_⟩ hb1
        all_goals (intro z; rw [hown] at z; cases z)
      · exact hb.elim
    · cases h
  | .forr tg i b, st, h => by
    unfold mS at h
    split at h
    · rename_i t iter x pp
      simp only [Bool.and_eq_true] at h
      obtain ⟨⟨⟨h1, h2⟩, h3⟩, h4⟩ := h
      refine PS.imp (ps_for po C.calm (pi_list (sE (.var i) X sc true E iter C h3)) (sTg C tg t h2) (ofA (sSsA C po b x [] _ h4 pss_nil)) (folded h1)) fun D σ H q => ?_
      obtain ⟨S, e, h, r, re, hb⟩ := q
      unfold exS at hb
      split at hb
      · rename_i n hn
        split at hb
        · rename_i ys hy
          refine ⟨S, e, h, r, re, ?_⟩
          unfold evE
          rw [hn]
          intro S1 H1 x1 r1 v rv
          obtain ⟨a, ea, rfl⟩ := rv
          obtain ⟨b0, eb0, vs0, hv0, _⟩ := r1.obj n _ hy
          rw [ea] at eb0; cases eb0
          exact ⟨a, rfl, ⟨vs0, SqL.of hv0⟩, forr_ok r1 (re.ext r x1) ea (F.All.imp (fun z pz => pz.up x1 z) hb)⟩
        · exact hb.elim
      · exact hb.elim
    · cases h
  | .ret x, st, h => by
    unfold mS at h
    split at h
    · rename_i e pp
      refine PS.imp (ps_ret (sE x X sc true E e C h)) fun D σ H q => ?_
      obtain ⟨S, e, h, r, re, hb⟩ := q
      unfold exS at hb
      refine onS r re hb fun a S1 H1 v x1 r1 re1 ra hb1 => hb1 S1 v H1 (Ext.refl _ _) r1 ra
    · cases h
  | .retn, st, h => by
    unfold mS at h
    split at h
    · refine PS.imp ps_retN fun D σ H q => ?_
      obtain ⟨S, e, h, r, re, hb⟩ := q
      unfold exS at hb
      exact hb S .non H (Ext.refl _ _) r (by unfold RW RV; rfl)
    · cases h
  | .rai c, st, h => by
    unfold mS at h
    split at h
    · rename_i x p1 m kk p2 p3 pp
      simp only [Bool.and_eq_true, decide_eq_true_eq] at h
      obtain ⟨⟨⟨h1, h2⟩, h3⟩, h4⟩ := h
      obtain ⟨Cc, gC, q1, q2, q3, q4⟩ := C.W.exc c h1
      have gC' := gC
      rw [h2] at gC'
      refine PS.imp (ps_raise C.calm C.tk (pmk_own PySem.F.excBase_ValueError q1 gC' q2 (raises_own q3 q4) (C.gl h3) (nodbg_ok h4).1)) fun D σ H q => ?_
      obtain ⟨S, e, h, r, re, hb⟩ := q
      unfold exS at hb
      exact hb S H h (Ext.refl _ _) r Cc gC
    · cases h
  | .exp x, st, h => by
    unfold mS at h
    split at h
    · rename_i e pp
      rw [Bool.and_eq_true] at h
      refine PS.imp (ps_expr (sE x X sc true E e C h.2) (swaps_no h.1)) fun D σ H q => ?_
      obtain ⟨S, e, h, r, re, hb⟩ := q
      unfold exS at hb
      exact onS r re hb fun a S1 H1 v x1 r1 re1 ra hb1 => hb1 S1 σ H1 (Ext.refl _ _) r1 re1
    · cases h
  | .fse s f rh, st, h => by
    unfold mS at h
    split at h
    · rename_i x p nm p2 e pp
      simp only [Bool.and_eq_true, decide_eq_true_eq] at h
      obtain ⟨⟨⟨h1, h2⟩, h3⟩, h4⟩ := h
      subst h1
      exact s_fse C h2 h3 h4
    · cases h
  | .fmn c s j, st, h => by
    unfold mS at h
    split at h
    · rename_i x p nm p2 p3 pp
      simp only [Bool.and_eq_true, decide_eq_true_eq] at h
      obtain ⟨h1, h3⟩ := h
      subst h1
      exact s_fmn C h3
    · cases h
  | .memo c j s k1 k2 body val, st, h => by simp [mS] at h
  | .any, st, h => by simp [mS] at h
  | .frz _, st, h => by simp [mS] at h
  | .dst i kx x, st, h => by
    unfold mS at h
    split at h
    · rename_i y p1 kk p2 e pp
      simp only [Bool.and_eq_true] at h
      obtain ⟨⟨⟨⟨h1, h2⟩, h3⟩, h4⟩, h5⟩ := h
      refine PS.imp (ps_xput C.hu9 (sE (.var i) X sc true E _ C h3) (sE kx X sc true E kk C h4) (sE x X sc true E e C h5) (swaps_no h2)) fun D σ H q => ?_
      obtain ⟨S, e, h, r, re, hb⟩ := q
      unfold exS at hb
      refine onS r re hb fun b S1 H1 w x1 r1 re1 rb hb1 => ?_
      split at hb1
      · rename_i n hn
        refine ⟨S1, e, h, r1, re1, ?_⟩
        unfold evE
        rw [hn]
        intro S2 H2 x2 r2 v rv
        obtain ⟨a', ea', rfl⟩ := rv
        refine onS r2 (re1.ext r1 x2) (F.All.imp (fun z pz => pz.up x2 z) hb1) fun c S3 H3 u x3 r3 re3 rc hb3 => ?_
        split at hb3
        · rename_i vd kd kvs hd
          split at hb3
          · rename_i hk
            rw [Bool.and_eq_true] at hk
            obtain ⟨a1, ea1, o, es, z1, z2, z3⟩ := r3.obj n _ hd
            have haa : a1 = a' := by
              obtain ⟨ns, e2⟩ := x3.as
              rw [e2, List.getElem?_append_left (List.getElem?_eq_some_iff.mp ea').1, ea'] at ea1
              exact (Option.some.inj ea1).symm
            subst haa
            have nz := r3.nz ea1 hd
            have mp := List.mem_of_getElem? ea1
            have rc' : RV X.K S3 H3 kd u := rc
            have rb' : RV X.K S3 H3 vd w := RW.ext r1 (x2.trans x3) (.d vd) w rb
            obtain ⟨g1, g2⟩ := put_keys z2 z3 hk.1 rc' rb'
            have hl := (den_of z2 z3).len
            have hl2 : kvs.length < dlim := by simpa [Nat.blt_eq] using hk.2
            refine ⟨a1, o, es, nk kd, rfl, get_of (by rw [← C.dx]; exact z1) z2 z3 hk.1 rc', (by have : dlim = 10000000 := rfl; omega), fun o' => ?_⟩
            rw [← C.dx]
            have xw : Ext S3 H3 S3 (upd H3 a1 (DicX PWc.P PWc.w a1 o' (putT es (nk kd) u w))) := ext_write mp nz nt_dicx
            exact hb3 S3 σ _ xw (r3.change ea1 nz nt_dicx ⟨o', _, upd_same, g1, RVs.ext r3 xw _ _ g2⟩) (re3.ext r3 xw)
          · exact hb3.elim
        · exact hb3.elim
      · exact hb1.elim
    · cases h
  | .hap i x, st, h => by
    unfold mS at h
    split at h
    · rename_i y p1 p3 p4 p5 m ap e cp pp
      simp only [Bool.and_eq_true, decide_eq_true_eq] at h
      obtain ⟨⟨⟨⟨h1, h2⟩, h3⟩, h4⟩, h5⟩ := h
      subst h1
      have sc1 := star_cons (es := []) (env := X.env) h3
      refine PS.imp (ps_expr (pe_bm PySem.F.plainAttrs_list PySem.F.slot_list_append PySem.F.type_list_append mt_append (pe_ix ix_list (sE (.var i) X sc true E _ C h4) pe_int (plainIx rfl)) (pa_cons (sE x X sc true E e C h5) pa_nil sc1) rfl (by rw [sc1]; rfl) h2 sc1 rfl) (swaps_no rfl)) fun D σ H q => ?_
      obtain ⟨S, e, h, r, re, hb⟩ := q
      unfold exS at hb
      split at hb
      rotate_left
      · exact hb.elim
      rename_i n hn
      split at hb
      rotate_left
      · exact hb.elim
      rename_i m tl hd
      split at hb
      rotate_left
      · exact hb.elim
      rename_i xs hm
      refine ⟨S, e, h, r, re, ?_⟩
      unfold evE
      rw [hn]
      intro S0 H0 x0 r0 v rv
      obtain ⟨a', ea', rfl⟩ := rv
      obtain ⟨b0, eb0, vs0, hv0, qv⟩ := r0.obj n _ hd
      rw [ea'] at eb0; cases eb0
      obtain ⟨w0, t0, rfl, ⟨c0, ec0, rfl⟩, _⟩ := qv
      obtain ⟨b1, eb1, vs1, hv1, _⟩ := r0.obj m _ hm
      rw [ec0] at eb1; cases eb1
      refine ⟨a', _, 0, .ref c0, rfl, rfl, SqL.of hv0, (by simp [atI, ixN]), .inl ⟨rfl, vs1, SqL.of hv1⟩, onS r0 (re.ext r x0) (F.All.imp (fun z pz => pz.up x0 z) hb) fun b S1 H1 w x1 r1 re1 rb hb1 => ?_⟩
      split at hb1
      · rename_i d
        split at hb1
        · rename_i hl
          obtain ⟨a1, ea1, vs, hv, q⟩ := r1.obj m _ hm
          have haa : a1 = c0 := by
            obtain ⟨ns, e2⟩ := x1.as
            rw [e2, List.getElem?_append_left (List.getElem?_eq_some_iff.mp ec0).1, ec0] at ea1
            exact (Option.some.inj ea1).symm
          subst haa
          refine ⟨a1, vs, w, rfl, rfl, hv, ?_, ?_⟩
          · rw [q.length]
            exact Nat.lt_of_lt_of_le (by simpa [Nat.blt_eq] using hl) lim_le
          · exact hb1 S1 σ _ (ext_write (List.mem_of_getElem? ea1) (r1.nz ea1 hm)) (r1.write ea1 (r1.nz ea1 hm) (q.append (.cons rb .nil))) (re1.ext r1 (ext_write (List.mem_of_getElem? ea1) (r1.nz ea1 hm)))
        · exact hb1.elim
      · exact hb1.elim
    · cases h
  | .exr rh, st, h => by
    unfold mS at h
    split at h
    · rename_i e pp
      rw [Bool.and_eq_true] at h
      refine PS.imp (ps_expr (sR C rh e h.2) (swaps_no h.1)) fun D σ H q => ?_
      obtain ⟨S, e, h, r, re, hb⟩ := q
      unfold exS at hb
      exact onSR r re hb fun a S1 H1 v x1 r1 re1 ra hb1 => hb1 S1 σ H1 (Ext.refl _ _) r1 re1
    · cases h
  | .rtr rh, st, h => by
    unfold mS at h
    split at h
    · rename_i e pp
      refine PS.imp (ps_ret (sR C rh e h)) fun D σ H q => ?_
      obtain ⟨S, e, h, r, re, hb⟩ := q
      unfold exS at hb
      exact onSR r re hb fun a S1 H1 v x1 r1 re1 ra hb1 => hb1 S1 v H1 (Ext.refl _ _) r1 ra
    · cases h
  | .ifr c a b, st, h => by
    unfold mS at h
    split at h
    · rename_i t x y pp
      simp only [Bool.and_eq_true] at h
      refine PS.imp (ps_if (sTr C c t h.1.1) (ofA (sSsA C po a x [] _ h.1.2 pss_nil)) (ofA (sSsA C po b y [] _ h.2 pss_nil))) fun D σ H q => ?_
      obtain ⟨S, e, h, r, re, hb⟩ := q
      unfold exS at hb
      refine ⟨S, e, h, r, re, F.All.imp (fun y p => ?_) (onE_all hb)⟩
      cases y with
      | ok q =>
        intro S1 H1 x1 r1
        obtain ⟨k, h1⟩ := q
        cases k with
        | true => exact iteT ⟨S1, e, h1, r1, re.ext r x1, F.All.imp (fun z pz => pz.up x1 z) p⟩
        | false => exact iteF ⟨S1, e, h1, r1, re.ext r x1, F.All.imp (fun z pz => pz.up x1 z) p⟩
      | ex c => exact p
    · cases h
  | .fap s f x, st, h => by
    unfold mS at h
    split at h
    · rename_i y p1 nm p2 m ap e cp pp
      simp only [Bool.and_eq_true, decide_eq_true_eq] at h
      obtain ⟨⟨⟨⟨⟨h1, h2⟩, h3⟩, h4⟩, h5⟩, h6⟩ := h
      subst h1 h2
      exact s_fap C h3 h4 h5 h6
    · cases h
  | .fpp s f, st, h => by
    unfold mS at h
    split at h
    · rename_i y p1 nm p2 m ap cp pp
      simp only [Bool.and_eq_true, decide_eq_true_eq] at h
      obtain ⟨⟨⟨h1, h2⟩, h3⟩, h4⟩ := h
      subst h1 h2
      exact s_fpp C h3 h4
    · cases h
  | .brk, st, h => by
    unfold mS at h
    split at h
    · refine PS.imp ps_break fun D σ H q => ?_
      obtain ⟨S, e, h, r, re, hb⟩ := q
      unfold exS at hb
      exact hb S σ H (Ext.refl _ _) r re
    · cases h
  | .cnt, st, h => by
    unfold mS at h
    split at h
    · refine PS.imp ps_continue fun D σ H q => ?_
      obtain ⟨S, e, h, r, re, hb⟩ := q
      unfold exS at hb
      exact hb S σ H (Ext.refl _ _) r re
    · cases h
theorem sSsA (C : Cok X N sc true E k G gc cl) (po : PassesOwn (model X.prog X.w) X.A X.env X.xe) : ∀ (s : Ss) (st rest : List Stmt) (u : TS), mSs G N sc s st = true → PSs X rest u → PSs X (st ++ rest) (tSeq (tSs X.K X.mg G gc cl wn E s) u)
  | .nil, st, rest, u, h, hr => by
    unfold mSs at h
    split at h
    · refine PSs.imp hr fun D σ H q => ?_
      obtain ⟨S, e, h, r, re, hb⟩ := q
      unfold exSs at hb
      exact hb S σ H (Ext.refl _ _) r re
    · cases h
  | .cons (.memo c j s k1 k2 body val) ss, st, rest, u, h, hr => by
    unfold mSs at h
    split at h
    · split at h
      · rename_i a1 b1 m1 q1 o1 f1 q2 q3 bd q8 o3 f3 q9 a3 b3 m3 q10 q11 q12
        split at h
        · rename_i o2 f2 q4 a2 b2 m2 q5 q6 v q7 hlast
          simp only [Bool.and_eq_true, decide_eq_true_eq] at h
          obtain ⟨⟨⟨⟨⟨⟨⟨⟨⟨⟨⟨⟨⟨⟨⟨⟨⟨⟨⟨⟨⟨⟨⟨h1, h2⟩, h3⟩, n1⟩, n2⟩, n3⟩, n4⟩, n5⟩, n6⟩, n7⟩, n8⟩, n9⟩, e1⟩, e2⟩, e3⟩, e4⟩, e5⟩, e6⟩, e7⟩, e8⟩, e9⟩, hv⟩, hval⟩, hbody⟩ := h
          subst h1 h2 h3
          have hbd : bd = bd.dropLast ++ [.Assign [.Subscript (.Attribute o2 (tnm c j) q4) (.Tuple [a2, b2] m2 q5) q6] v q7] := by
            have hne : bd ≠ [] := by rintro rfl; cases hlast
            have := List.dropLast_concat_getLast hne
            rw [List.getLast?_eq_some_getLast hne] at hlast
            rw [Option.some.inj hlast] at this
            exact this.symm
          have hp : ∀ (rest : List Stmt) (u : TS), PSs X rest u → PSs X (bd.dropLast ++ rest) (tSeq (tSs X.K X.mg G gc cl wn E body) u) := fun rest u hr => sSsA C po body bd.dropLast rest u hbody hr
          generalize bd.dropLast = init at hbd hp
          subst hbd
          exact s_memo C e1 e2 e3 e4 e5 e6 e7 e8 e9 n1 n2 n3 n4 n5 n6 n7 n8 n9 hv hval hp hr
        · cases h
      · cases h
    · cases h
  | .cons .any ss, st, rest, u, h, hr => ⟨fun pins s σ H D I q => by
      obtain ⟨S, e, h, r, re, hb⟩ := q
      unfold exSs at hb
      have hb := F.All_bind.mp hb
      unfold exS at hb
      exact hb.elim⟩
  | .cons (.frz i) ss, st, rest, u, h, hr => by
    unfold mSs at h
    refine PSs.imp (sSsA C po ss st rest u h hr) fun D σ H q => ?_
    obtain ⟨S, e, h, r, re, hb⟩ := q
    unfold exSs at hb
    obtain ⟨S', e', h', x', r', re', p⟩ := frz_ok (mg := X.mg) r re (F.All_bind.mp hb)
    exact ⟨S', e', h', r', re', F.All.imp (fun z pz => pz.up x' z) p⟩
  | .cons (.dst i kx x) ss, st, rest, u, h, hr => by
    obtain ⟨t, ts, rfl, h1, h2⟩ := mSs_cons rfl h
    exact consA (sS C po (.dst i kx x) t h1) (sSsA C po ss ts rest u h2 hr)
  | .cons (.hap i x) ss, st, rest, u, h, hr => by
    obtain ⟨t, ts, rfl, h1, h2⟩ := mSs_cons rfl h
    exact consA (sS C po (.hap i x) t h1) (sSsA C po ss ts rest u h2 hr)
  | .cons (.exr r) ss, st, rest, u, h, hr => by
    obtain ⟨t, ts, rfl, h1, h2⟩ := mSs_cons rfl h
    exact consA (sS C po (.exr r) t h1) (sSsA C po ss ts rest u h2 hr)
  | .cons (.rtr r) ss, st, rest, u, h, hr => by
    obtain ⟨t, ts, rfl, h1, h2⟩ := mSs_cons rfl h
    exact consA (sS C po (.rtr r) t h1) (sSsA C po ss ts rest u h2 hr)
  | .cons (.ifr c a b) ss, st, rest, u, h, hr => by
    obtain ⟨t, ts, rfl, h1, h2⟩ := mSs_cons rfl h
    exact consA (sS C po (.ifr c a b) t h1) (sSsA C po ss ts rest u h2 hr)
  | .cons (.fap s f x) ss, st, rest, u, h, hr => by
    obtain ⟨t, ts, rfl, h1, h2⟩ := mSs_cons rfl h
    exact consA (sS C po (.fap s f x) t h1) (sSsA C po ss ts rest u h2 hr)
  | .cons (.fpp s f) ss, st, rest, u, h, hr => by
    obtain ⟨t, ts, rfl, h1, h2⟩ := mSs_cons rfl h
    exact consA (sS C po (.fpp s f) t h1) (sSsA C po ss ts rest u h2 hr)
  | .cons (.set tg x) ss, st, rest, u, h, hr => by
    obtain ⟨t, ts, rfl, h1, h2⟩ := mSs_cons rfl h
    exact consA (sS C po (.set tg x) t h1) (sSsA C po ss ts rest u h2 hr)
  | .cons (.put i r) ss, st, rest, u, h, hr => by
    obtain ⟨t, ts, rfl, h1, h2⟩ := mSs_cons rfl h
    exact consA (sS C po (.put i r) t h1) (sSsA C po ss ts rest u h2 hr)
  | .cons (.par is rs) ss, st, rest, u, h, hr => by
    obtain ⟨t, ts, rfl, h1, h2⟩ := mSs_cons rfl h
    exact consA (sS C po (.par is rs) t h1) (sSsA C po ss ts rest u h2 hr)
  | .cons (.aug i o x) ss, st, rest, u, h, hr => by
    obtain ⟨t, ts, rfl, h1, h2⟩ := mSs_cons rfl h
    exact consA (sS C po (.aug i o x) t h1) (sSsA C po ss ts rest u h2 hr)
  | .cons (.app i x) ss, st, rest, u, h, hr => by
    obtain ⟨t, ts, rfl, h1, h2⟩ := mSs_cons rfl h
    exact consA (sS C po (.app i x) t h1) (sSsA C po ss ts rest u h2 hr)
  | .cons (.ext i x) ss, st, rest, u, h, hr => by
    obtain ⟨t, ts, rfl, h1, h2⟩ := mSs_cons rfl h
    exact consA (sS C po (.ext i x) t h1) (sSsA C po ss ts rest u h2 hr)
  | .cons (.sti i j x) ss, st, rest, u, h, hr => by
    obtain ⟨t, ts, rfl, h1, h2⟩ := mSs_cons rfl h
    exact consA (sS C po (.sti i j x) t h1) (sSsA C po ss ts rest u h2 hr)
  | .cons (.ife c a b) ss, st, rest, u, h, hr => by
    obtain ⟨t, ts, rfl, h1, h2⟩ := mSs_cons rfl h
    exact consA (sS C po (.ife c a b) t h1) (sSsA C po ss ts rest u h2 hr)
  | .cons (.whl c b) ss, st, rest, u, h, hr => by
    obtain ⟨t, ts, rfl, h1, h2⟩ := mSs_cons rfl h
    exact consA (sS C po (.whl c b) t h1) (sSsA C po ss ts rest u h2 hr)
  | .cons (.for_ tg it b) ss, st, rest, u, h, hr => by
    obtain ⟨t, ts, rfl, h1, h2⟩ := mSs_cons rfl h
    exact consA (sS C po (.for_ tg it b) t h1) (sSsA C po ss ts rest u h2 hr)
  | .cons (.forr tg i b) ss, st, rest, u, h, hr => by
    obtain ⟨t, ts, rfl, h1, h2⟩ := mSs_cons rfl h
    exact consA (sS C po (.forr tg i b) t h1) (sSsA C po ss ts rest u h2 hr)
  | .cons (.ret x) ss, st, rest, u, h, hr => by
    obtain ⟨t, ts, rfl, h1, h2⟩ := mSs_cons rfl h
    exact consA (sS C po (.ret x) t h1) (sSsA C po ss ts rest u h2 hr)
  | .cons (.retn) ss, st, rest, u, h, hr => by
    obtain ⟨t, ts, rfl, h1, h2⟩ := mSs_cons rfl h
    exact consA (sS C po (.retn) t h1) (sSsA C po ss ts rest u h2 hr)
  | .cons (.rai c) ss, st, rest, u, h, hr => by
    obtain ⟨t, ts, rfl, h1, h2⟩ := mSs_cons rfl h
    exact consA (sS C po (.rai c) t h1) (sSsA C po ss ts rest u h2 hr)
  | .cons (.exp x) ss, st, rest, u, h, hr => by
    obtain ⟨t, ts, rfl, h1, h2⟩ := mSs_cons rfl h
    exact consA (sS C po (.exp x) t h1) (sSsA C po ss ts rest u h2 hr)
  | .cons (.fse s f r) ss, st, rest, u, h, hr => by
    obtain ⟨t, ts, rfl, h1, h2⟩ := mSs_cons rfl h
    exact consA (sS C po (.fse s f r) t h1) (sSsA C po ss ts rest u h2 hr)
  | .cons (.fmn c s j) ss, st, rest, u, h, hr => by
    obtain ⟨t, ts, rfl, h1, h2⟩ := mSs_cons rfl h
    exact consA (sS C po (.fmn c s j) t h1) (sSsA C po ss ts rest u h2 hr)
  | .cons (.brk) ss, st, rest, u, h, hr => by
    obtain ⟨t, ts, rfl, h1, h2⟩ := mSs_cons rfl h
    exact consA (sS C po (.brk) t h1) (sSsA C po ss ts rest u h2 hr)
  | .cons (.cnt) ss, st, rest, u, h, hr => by
    obtain ⟨t, ts, rfl, h1, h2⟩ := mSs_cons rfl h
    exact consA (sS C po (.cnt) t h1) (sSsA C po ss ts rest u h2 hr)
end
theorem sSs (C : Cok X N sc true E k G gc cl) (po : PassesOwn (model X.prog X.w) X.A X.env X.xe) (s : Ss) (st : List Stmt) (h : mSs G N sc s st = true) : PSs X st (tSs X.K X.mg G gc cl wn E s) := ofA (sSsA C po s st [] _ h pss_nil)
end
end Bk
namespace Bk
open PySem PySem.Spec PyProof.Rows L2
variable [MF] [PWc]
section
variable {K : PySem.W.Frag} {S S1 : Sg} {H H1 : Hp} {h : Hq}
theorem ext_end (e : S.as = []) (x : Ext S H S1 H1) : Ext S H (S1.callee true) H1 where
  as := ⟨[], by rw [e]; rfl⟩
  kp := x.kp
  na := fun a o q n m => by cases m
  fz := fun a m => .inl (x.fz a m)
  nf := fun a o q n m => by
    rcases m with m | ⟨_, m⟩
    · exact x.nf a o q n m
    · have := x.na a o q n m
      rw [e] at this
      cases this
  fr := x.fr
  sc := x.sc
  tw := x.tw
  nt := x.nt
  mm := x.mm
  nm := x.nm
  fk := x.fk
theorem RW.callee (r : RelH K S H h) {v : Vv} {d : D} {w : V} (q : RW K S H v w) (e : rdV h v = some d) : RV K (S.callee true) H d w := by
  have z := RWs.callee (c := true) r (vs := [v]) (ds := [d]) (ws := [w]) (fun _ => rfl) ⟨w, [], rfl, q, rfl⟩ (by simp [rdVs, e])
  obtain ⟨v, t, e2, z, _⟩ := RVs.of_cons z
  cases e2
  exact z
theorem relE_start {ds : List D} {vs : List V} {N : List Str} {m : Nat} (hm : ds.length + m = N.length) (rv : RVs K S H ds vs) : RelE K S H (ds.map (fun d => some (Vv.d d)) ++ List.replicate m none) (start N vs) where
  len := by
    have := rv.length
    unfold L2.start
    simp
    omega
  sl := fun i x e => by
    have hl := rv.length
    by_cases hi : i < ds.length
    · rw [List.getElem?_append_left (by simpa using hi), List.getElem?_map, List.getElem?_eq_getElem hi] at e
      cases e
      obtain ⟨v, e2, q⟩ := rv.get (List.getElem?_eq_getElem hi)
      refine ⟨v, ?_, q⟩
      unfold L2.start
      rw [List.getElem?_append_left (by rw [List.length_map, hl]; exact hi), List.getElem?_map, e2]
      rfl
    · rw [List.getElem?_append_right (by simpa using Nat.le_of_not_lt hi), List.getElem?_replicate] at e
      split at e
      · cases e
      · cases e
end
section
variable {P : Program} {w : World} {K : PySem.W.Frag} {mg : Str → Option Value} {base : Heap} {G : Nm} {gc : Gc} {T : Tab} {wn k i : Nat} {x qual : Str} {params : Arguments} {body : List Stmt} {sc : Scope} {f : Addr} {fd : FuncData} {N : List Str} {g : Fn}
theorem end_ok {S : Sg} {H : Hp} {Q : VK} {E : XK} (e : S.as = []) : ∀ fl : Fl, (endD fl).All (PoC K mg G S H Q E) → PoS K mg G S H { nx := fun _ H' => Q .non H', rt := Q } E fl
  | .nx e1 h1, p => fun S' σ' H' x' r' re' => p (S'.callee true) .non H' (ext_end e x') rfl (r'.callee true) (by unfold RV; rfl)
  | .rt v h1, p => fun S' u H' x' r' q => by
    have p : (match rdV h1 v with
      | some d => ok d
      | none => .stk : M D).All (PoC K mg G S H Q E) := p
    split at p
    · rename_i d ed
      exact p (S'.callee true) u H' (ext_end e x') rfl (r'.callee true) (RW.callee r' q ed)
    · exact p.elim
  | .bk _ _, p => p.elim
  | .ct _ _, p => p.elim
  | .ex c, p => fun S' H' h' x' r' => p (S'.callee true) H' (ext_end e x') rfl (r'.callee true)
theorem lam_ok (F : FunD K x qual params body sc [] [] f fd) {cdv : Value} {oc : Value} {od : Option Addr} {dV kV doc pm ct : Value} {an : Option Addr} {osl : Array (Option Value)} (lk : K.lookup f = some ⟨oc, od, .func (PySem.W.fnOf x qual params body sc dV kV doc pm an cdv ct), osl⟩) (hcd : PySem.W.codeIn K cdv qual = true)
    (hx : x = qual ∧ f = He.fAd K (x, none) ∧ x ∈ tdf K) (ht : ∀ x ∈ tdf K, LamX.TabB base mg (He.cT K (x, none)).1 (He.cT K (x, none)).2) : ∃ c P, LamX.TabB base mg c P ∧ cdv = .ref c ∧ (P, (qual ++ ".<locals>.") ++ "<lambda>") ∈ tbl K := by
  obtain ⟨rfl, rfl, hx⟩ := hx
  obtain ⟨c, rfl⟩ := He.codeIn_ref hcd
  have ec : He.codeOf K (x, none) = c := He.codeOf_eq lk rfl
  have e2 : He.cT K (x, none) = (c, He.tabOf K c) := by unfold He.cT; rw [ec]
  have := ht x hx
  rw [e2] at this
  refine ⟨c, He.tabOf K c, this, rfl, List.mem_map.mpr ⟨x, hx, ?_⟩⟩
  rw [e2]
  rfl
theorem fn_ok (F : FunD K x qual params body sc [] [] f fd) (Sc : FnScope N (G.fps i) sc) (hm : mSs G N sc g.body body = true) (hnp : g.np = (G.fps i).length) (hns : g.ns = N.length) (hT : T.lookup i = some (.fn g)) (hx : G.lm = true → x = qual ∧ f = He.fAd K (x, none) ∧ x ∈ tdf K)
    (hpw : P = PWc.P ∧ w = PWc.w) (W : Wok P w K mg base k G gc (callF gc T wn k)) : FnOk P w K mg base (L2.CX P w) (4 * (k + 1)) f fd (G.fps i) (spC K mg G (callF gc T wn (k + 1)) i) := by
  have F' := F
  obtain ⟨oc, od, dV, kV, doc, pm, an, cdv, ct, osl, rfl, lk, hcd, hD, hK⟩ := F'.ex
  refine ⟨fun vs H Q E h => h.1, fun A outer s H args us vs Q E hr e0 hb rv0 h => LamX.run_ofS (CX := L2.CX P w) (N := N) (ps := G.fps i) (k := 4 * k + 3) lk hcd Sc hr e0 hb rv0 h.1 fun hr' => ⟨tSs K mg G gc (callF gc T wn k) wn E g.body, ?_, ?_⟩⟩
  · exact sSs (X := cxOf (L2.CX P w) P w K mg base N qual sc f cdv A outer s H E) (N := N) (sc := sc) (E := E) (k := k) ⟨rfl, Sc.nd, rfl, rfl, hr'.mono (by omega), fun _ => hr', hpw, fun hl => lam_ok F lk hcd (hx hl) W.tab, takes_of rfl rfl rfl rfl, fun _ _ => rfl, W⟩ (passes_of rfl) g.body body hm
  · obtain ⟨hl, S, ds, has, r, rv, hb⟩ := h
    unfold callF at hb
    rw [hT] at hb
    have hb : (runF gc (callF gc T wn k) wn g ds).All (PoC K mg G S H Q E) := hb
    unfold runF at hb
    split at hb
    · rename_i hle
      have hle := Nat.eq_of_beq_eq_true hle
      refine ⟨S, _, [], r, relE_start ?_ rv, Bk.F.All.imp (end_ok has) (Bk.F.All_bind.mp hb)⟩
      have h2 : (G.fps i).length ≤ N.length := by
        have := congrArg List.length Sc.pre
        rw [List.length_take] at this
        omega
      omega
    · exact hb.elim
theorem fn_zero (i : Nat) : FnOk P w K mg base (L2.CX P w) (4 * 0) f fd (G.fps i) (spC K mg G (callF gc T wn 0) i) :=
  ⟨fun vs H Q E h => h.1, fun A outer s H args us vs Q E _ _ _ _ h => by
    obtain ⟨_, S, ds, _, _, _, hb⟩ := h
    exact hb.elim⟩
theorem init_zero (i c : Nat) : FnOk P w K mg base (L2.CX P w) (4 * 0) f fd (G.fps i) (spI K mg G (callF gc T wn 0) i c) :=
  ⟨fun vs H Q E h => h.1, fun A outer s H args us vs Q E _ _ _ _ h => by
    obtain ⟨_, x, dx, ws, S, ds, H0, _, _, _, _, _, _, _, _, hb⟩ := h
    exact hb.elim⟩
theorem initJ_zero (i c : Nat) : FnOk P w K mg base (L2.CX P w) (4 * 0) f fd (G.fps i) (spJ K mg G (callF gc T wn 0) i c) :=
  ⟨fun vs H Q E h => h.1, fun A outer s H args us vs Q E _ _ _ _ h => by
    obtain ⟨_, x, dx, ws, S, ds, H0, _, _, _, _, _, _, _, _, hb⟩ := h
    exact hb.elim⟩
theorem mfn_zero (i : Nat) : FnOk P w K mg base (L2.CX P w) (4 * 0) f fd (G.fps i) (spM K mg G (callF gc T wn 0) i) :=
  ⟨fun vs H Q E h => h.1, fun A outer s H args us vs Q E _ _ _ _ h => by
    obtain ⟨_, S, h, vvs, _, _, hb⟩ := h
    exact hb.elim⟩
end
theorem PoW.up {K : PySem.W.Frag} {mg : Str → Option Value} {G : Nm} {S S1 : Sg} {H H1 : Hp} {h : Hq} {Q : VK} {E : XK} (x : Ext S H S1 H1) : ∀ r, PoW K mg G S H h Q E r → PoW K mg G S1 H1 h Q E r
  | .ok p, q => fun S' w H' x' => q S' w H' (x.trans x')
  | .ex c, q => fun S' H' x' => q S' H' (x.trans x')
end Bk
namespace Bk
open PySem PySem.Spec PyProof.Rows L2
variable [MF] [PWc]
abbrev drwB (p1 p2 p3 p4 p5 p6 p7 p8 p9 p10 p11 p12 p13 p14 p15 p16 p17 p18 p19 p20 p21 p22 p23 p24 p25 p26 p27 p28 p29 p30 p31 p32 p33 p34 p35 p36 p37 p38 p39 p40 p41 p42 p43 p44 p45 p46 p47 p48 p49 p50 p51 p52 p53 p54 p55 p56 p57 p58 p59 p60 p61 p62 p63 p64 p65 p66 p67 p68 p69 p70 p71 p72 p73 p74 p75 p76 p77 p78 p79 p80 p81 p82 p83 p84 p85 p86 : Pos) : List Stmt :=
  [.Assign [(.Subscript (.Name "town" p1) (.Constant (.str "count") 0 p2) p3)] (.BinOp (.Subscript (.Name "town" p4) (.Constant (.str "count") 0 p5) p6) .Add (.Constant (.int 1) 0 p7) p8) p9,
   .Assign [(.Name "at" p10)] (.IfExp (.Name "script" p11) (.BinOp (.Subscript (.Name "town" p12) (.Constant (.str "count") 0 p13) p14) .Mod (.Call (.Name "len" p15) [(.Name "script" p16)] [] p17) p18) (.Constant (.int 0) 0 p19) p20) p21,
   .Assign [(.Name "rest" p22)] (.Call (.Attribute (.Subscript (.Name "town" p23) (.Constant (.str "rests") 0 p24) p25) "get" p26) [(.Name "at" p27), (.IfExp (.Name "script" p28) (.Subscript (.Name "script" p29) (.Name "at" p30) p31) (.Constant (.int 0) 0 p32) p33)] [] p34) p35,
   .If (.Compare (.Name "rest" p36) [.GtE] [(.BinOp (.Constant (.int 10) 0 p37) .Pow (.Constant (.int 18) 0 p38) p39)] p40) [.Assign [(.Subscript (.Subscript (.Name "town" p41) (.Constant (.str "rests") 0 p42) p43) (.Name "at" p44) p45)] (.BinOp (.Name "rest" p46) .FloorDiv (.Name "many" p47) p48) p49, .Return (some (.BinOp (.Name "rest" p50) .Mod (.Name "many" p51) p52)) p53] [] p54,
   .Assign [(.Name "number" p55)] (.BinOp (.BinOp (.Name "rest" p56) .Add (.BinOp (.Constant (.int 104729) 0 p57) .Mult (.Subscript (.Name "town" p58) (.Constant (.str "count") 0 p59) p60) p61) p62) .Mod (.Constant (.int 4294967291) 0 p63) p64) p65,
   .Assign [(.Name "number" p66)] (.BinOp (.BinOp (.Name "number" p67) .Pow (.Constant (.int 5) 0 p68) p69) .Mod (.Constant (.int 4294967279) 0 p70) p71) p72,
   .Return (some (.BinOp (.BinOp (.BinOp (.BinOp (.BinOp (.BinOp (.Name "number" p73) .FloorDiv (.Constant (.int 64) 0 p74) p75) .Mult (.Constant (.int 69621) 0 p76) p77) .Add (.Name "number" p78) p79) .Mod (.Constant (.int 4294967231) 0 p80) p81) .FloorDiv (.Constant (.int 8) 0 p82) p83) .Mod (.Name "many" p84) p85)) p86]
abbrev begB (p1 p2 p3 p4 p5 p6 : Pos) : List Stmt :=
  [.Return (some (.Dict [some (.Constant (.str "count") 0 p1), some (.Constant (.str "rests") 0 p2)] [(.Constant (.int 0) 0 p3), (.Dict [] [] p4)] p5)) p6]
abbrev kCount : Key := Sum.inr (Str.ofString "count")
abbrev kRests : Key := Sum.inr (Str.ofString "rests")
theorem kv_ne : (kRests = kCount) = False := by
  apply eq_false
  intro h
  have h2 := Sum.inr.inj h
  revert h2
  decide +kernel
theorem town_count {c : Nat} {b : Addr} : valV [(kCount, V.int c), (kRests, V.ref b)] kCount = some (.int c) := valV_pos rfl
theorem town_rests {v : V} {b : Addr} : valV [(kCount, v), (kRests, V.ref b)] kRests = some (.ref b) := by
  rw [valV_neg (by intro h; have := kv_ne; rw [show (kRests = kCount) = True from eq_true h.symm] at this; exact absurd this (by simp))]
  exact valV_pos rfl
theorem town_put {c d : V} {b : Addr} : putK [(kCount, c), (kRests, V.ref b)] kCount d = [(kCount, d), (kRests, .ref b)] := by
  unfold putK
  have h1 : (decide (kRests = kCount)) = false := by rw [decide_eq_false_iff_not]; intro h; have := kv_ne; rw [show (kRests = kCount) = True from eq_true h] at this; exact absurd this (by simp)
  have h2 : ¬ kRests = kCount := of_decide_eq_false h1
  simp [h2]
theorem town_ext {K : PySem.W.Frag} {S : Sg} {H H' : Hp} {t b : Addr} {c : Nat} {rs : List (Key × V)} (has : S.as = []) (r : RelH K S H []) (ht : S.tw t b) (h0 : ∃ c0 rs0, H t = some (.dK [(kCount, .int (c0 : Nat)), (kRests, .ref b)]) ∧ H b = some (.dK rs0) ∧ RestOk rs0) (h1 : H' t = some (.dK [(kCount, .int c), (kRests, .ref b)])) (h2 : H' b = some (.dK rs)) (hr : RestOk rs) (hk : ∀ a, a ≠ t → a ≠ b → H' a = H a) : Ext S H S H' ∧ RelH K S H' [] := by
  have x : Ext S H S H' := by
    refine ⟨⟨[], by simp⟩, fun a o e no => ?_, fun _ _ _ _ h => h, fun _ h => h, fun _ _ _ _ h => .inl h, fun a o e _ _ n _ => ?_, rfl, fun _ _ h => h, fun _ _ _ _ h => h, fun _ _ _ h => h, fun _ _ _ _ h => h, fun a o e _ _ n _ => ?_⟩
    · by_cases e1 : a = t
      · rw [e1]; exact ⟨_, h1, nt_dK⟩
      · by_cases e2 : a = b
        · rw [e2]; exact ⟨_, h2, nt_dK⟩
        · rw [hk a e1 e2]; exact ⟨o, e, no⟩
    · rw [hk a (fun e1 => n ⟨t, b, ht, .inl e1⟩) (fun e1 => n ⟨t, b, ht, .inr e1⟩)]
      exact e
    · rw [hk a (fun e1 => n ⟨t, b, ht, .inl e1⟩) (fun e1 => n ⟨t, b, ht, .inr e1⟩)]
      exact e
  refine ⟨x, r.len, r.nd, fun n o e => by simp at e, r.sep, r.keepS x r.scr, fun t' b' e => ?_, fun a m => ?_, tabs_keep r.tab fun a o e hu => ?_, fun d j o m => ?_, r.mmu, r.omm⟩
  · obtain ⟨c0, rs0, g1, g2, g3⟩ := h0
    obtain ⟨c', rs', g1', g2', g3'⟩ := r.twn t' b' e
    by_cases et : t' = t
    · subst et
      rw [g1] at g1'
      cases g1'
      exact ⟨c, rs, h1, h2, hr⟩
    · have etb : t' ≠ b := fun z => by
        rw [z, g2] at g1'
        have h1 := HO.dK.inj (Option.some.inj g1')
        obtain ⟨j, m, e2, _⟩ := g3.2 (kCount, V.int c') (by rw [h1]; exact List.mem_cons_self)
        cases e2
      by_cases eb : b' = b
      · subst eb
        exact ⟨c', rs, by rw [hk t' et etb]; exact g1', h2, hr⟩
      · have ebt : b' ≠ t := fun z => by
          rw [z, g1] at g2'
          have h1 := HO.dK.inj (Option.some.inj g2')
          obtain ⟨j, m, e2, _⟩ := g3'.2 (kCount, V.int c0) (by rw [← h1]; exact List.mem_cons_self)
          cases e2
        exact ⟨c', rs', by rw [hk t' et etb]; exact g1', by rw [hk b' ebt eb]; exact g2', g3'⟩
  · obtain ⟨o, q, n⟩ := r.fzs a m
    exact x.kp a o q n
  · obtain ⟨c0, rs0, g1, g2, g3⟩ := h0
    rw [hk a (fun z => ?_) (fun z => ?_)]
    · exact e
    · rw [z, g1] at e
      cases e
      rcases hu with ⟨_, hu⟩ | ⟨_, hu⟩ <;> cases hu
    · rw [z, g2] at e
      cases e
      rcases hu with ⟨_, hu⟩ | ⟨_, hu⟩ <;> cases hu
  · obtain ⟨c0, rs0, g1, g2, g3⟩ := h0
    obtain ⟨es, q⟩ := r.notMm ⟨j, o, m⟩
    refine r.mapM x m ?_
    rw [hk d (fun z => ?_) (fun z => ?_)]
    · rw [z, g1] at q
      cases q
    · rw [z, g2] at q
      cases q
theorem rest_put {rs : List (Key × V)} {j : Nat} {n : Int} (h : RestOk rs) (hj : j < 63) : RestOk (putK rs (Sum.inl (j : Int)) (.int n)) := by
  obtain ⟨nd, h⟩ := h
  unfold putK
  split
  · rename_i ha
    refine ⟨?_, fun p hp => ?_⟩
    · rw [List.map_map]
      have : (rs.map ((fun x : Key × V => x.1) ∘ fun kv => if kv.1 = Sum.inl (j : Int) then (kv.1, V.int n) else kv)) = rs.map (·.1) := by
        apply List.map_congr_left
        intro a _
        simp only [Function.comp]
        split <;> rfl
      rw [this]
      exact nd
    · obtain ⟨q, hq, e⟩ := List.mem_map.mp hp
      obtain ⟨i, m, e2, hi⟩ := h q hq
      split at e
      · rename_i hh
        exact ⟨j, n, by rw [← e, hh], hj⟩
      · exact ⟨i, m, by rw [← e]; exact e2, hi⟩
  · rename_i ha
    refine ⟨?_, fun p hp => ?_⟩
    · rw [List.map_append, List.nodup_append]
      refine ⟨nd, by simp, fun a h1 b h2 e => ?_⟩
      obtain ⟨q, hq, e2⟩ := List.mem_map.mp h1
      simp at h2
      apply ha
      rw [List.any_eq_true]
      exact ⟨q, hq, by rw [decide_eq_true_iff]; rw [e2, e, h2]⟩
    · rcases List.mem_append.mp hp with hp | hp
      · exact h p hp
      · simp at hp
        exact ⟨j, n, hp, hj⟩
theorem nodup_le {α : Type} [DecidableEq α] : ∀ {l m : List α}, l.Nodup → (∀ a ∈ l, a ∈ m) → l.length ≤ m.length
  | [], m, _, _ => Nat.zero_le _
  | a :: l, m, nd, h => by
    obtain ⟨n1, n2⟩ := List.nodup_cons.mp nd
    have hm := h a List.mem_cons_self
    have := nodup_le (l := l) (m := m.erase a) n2 fun b hb => (List.mem_erase_of_ne (fun e => n1 (by rw [← e]; exact hb))).mpr (h b (List.mem_cons_of_mem _ hb))
    rw [List.length_erase_of_mem hm] at this
    have := List.length_pos_of_mem hm
    rw [List.length_cons]
    omega
theorem rest_len {rs : List (Key × V)} (h : RestOk rs) : rs.length < sizeLine := by
  obtain ⟨nd, h⟩ := h
  have h1 : rs.map (·.1) ⊆ (List.range 63).map fun i : Nat => (Sum.inl (i : Int) : Key) := fun k hk => by
    obtain ⟨q, hq, e⟩ := List.mem_map.mp hk
    obtain ⟨i, m, e2, hi⟩ := h q hq
    exact List.mem_map.mpr ⟨i, List.mem_range.mpr hi, by rw [← e, e2]⟩
  have h2 := nodup_le nd fun a ha => h1 ha
  rw [List.length_map, List.length_map, List.length_range] at h2
  rw [sizeLine_eq]
  omega
theorem rest_val {rs : List (Key × V)} {k : Key} {v : V} (h : RestOk rs) (e : valV rs k = some v) : ∃ n : Int, v = .int n := by
  unfold valV at e
  cases q : rs.find? fun kv => decide (kv.1 = k) with
  | none => rw [q] at e; cases e
  | some p =>
    rw [q] at e
    obtain ⟨i, n, e2, _⟩ := h.2 p (List.mem_of_find?_eq_some q)
    cases e
    exact ⟨n, by rw [e2]⟩
section
variable {P : Program} {w : World} {K : PySem.W.Frag} {mg : Str → Option Value} {base : Heap} {G : Nm} {gc : Gc} {T : Tab} {wn k i : Nat} {x qual : Str} {params : Arguments} {bd : List Stmt} {sc : Scope} {f : Addr} {fd : FuncData}
abbrev drwN : List Str := ["script", "town", "many", "at", "rest", "number"]
abbrev drwP : List Str := ["script", "town", "many"]
def tTru (K : PySem.W.Frag) (ta : TE) : TT := fun σ H Q => ta σ H fun x H' => ∃ k, TruV K x H' k ∧ Q k H'
theorem at_ok {σ : L2.St} {H : Hp} {s t b : Addr} {c : Nat} {ns : List Int} (e0 : σ[0]? = some (some (.ref s))) (e1 : σ[1]? = some (some (.ref t))) (hs : SqL K H s (ns.map V.int)) (hn : ns.length ≤ 63) (ht : H t = some (.dK [(kCount, .int c), (kRests, .ref b)])) :
    ∃ j : Nat, j < 63 ∧ (ns = [] ∨ j < ns.length) ∧ ∀ Q : VK, Q (.int j) H → tIf (tTru K (tVar 0)) (tOp (rI (fun _ j => 0 < j) fun i j => .int (i % j)) (tDGet (tVar 1) (tC (.str "count"))) (tCB (fun xs H Q => ∃ x n, xs = [x] ∧ LenV K x H n ∧ Q (.int n) H) (tCons (tVar 0) tNil))) (tC (.int 0)) σ H Q := by
  cases ns with
  | nil => exact ⟨0, by omega, .inl rfl, fun Q q => ⟨_, e0, false, .inl ⟨_, hs, rfl⟩, iteF q⟩⟩
  | cons a r =>
    have hl : 0 < (a :: r).length := Nat.succ_pos _
    refine ⟨c % (a :: r).length, Nat.lt_of_lt_of_le (Nat.mod_lt _ hl) hn, .inr (Nat.mod_lt _ hl), fun Q q => ⟨_, e0, true, .inl ⟨_, hs, rfl⟩, iteT ?_⟩⟩
    have g := DGet.k (k := kCount) ht
    rw [town_count] at g
    refine ⟨_, e1, t, .int c, rfl, g, _, e0, _, ((a :: r).map V.int).length, rfl, .inl ⟨_, hs, rfl⟩, c, _, rfl, rfl, ?_, ?_⟩
    · rw [List.length_map]
      omega
    · rw [List.length_map]
      exact q
theorem rest_ok {σ : L2.St} {H : Hp} {s t b : Addr} {c : V} {rs : List (Key × V)} {ns : List Int} {j : Nat} (e0 : σ[0]? = some (some (.ref s))) (e1 : σ[1]? = some (some (.ref t))) (e3 : σ[3]? = some (some (.int j))) (hs : SqL K H s (ns.map V.int)) (hj : ns = [] ∨ j < ns.length)
    (ht : H t = some (.dK [(kCount, c), (kRests, .ref b)])) (hb : H b = some (.dK rs)) (hr : RestOk rs) :
    ∃ m : Int, ∀ Q : VK, Q (.int m) H → tDGet2 (tDGet (tVar 1) (tC (.str "rests"))) (tVar 3) (tIf (tTru K (tVar 0)) (tOp (rIxL K) (tVar 0) (tVar 3)) (tC (.int 0))) σ H Q := by
  have g := DGet.k (k := kRests) ht
  rw [town_rests] at g
  have gb := DGet.k (k := Sum.inl (j : Int)) hb
  obtain ⟨z, hz⟩ : ∃ z : Int, ∀ Q : VK, Q (.int z) H → tIf (tTru K (tVar 0)) (tOp (rIxL K) (tVar 0) (tVar 3)) (tC (.int 0)) σ H Q := by
    cases ns with
    | nil => exact ⟨0, fun Q q => ⟨_, e0, false, .inl ⟨_, hs, rfl⟩, iteF q⟩⟩
    | cons a r =>
      rcases hj with hj | hj
      · cases hj
      · have ea : atI ((a :: r).map V.int) (j : Int) = some (V.int ((a :: r)[j])) := by
          have hj2 : j < ((a :: r).map V.int).length := by rw [List.length_map]; exact hj
          have h1 : ixN ((a :: r).map V.int).length ((j : Nat) : Int) = some j := by
            unfold ixN
            rw [if_pos (by omega), if_pos (by omega)]
            all_goals rfl
          unfold atI
          rw [h1]
          show ((a :: r).map V.int)[j]? = _
          rw [List.getElem?_map, List.getElem?_eq_getElem hj]
          rfl
        exact ⟨(a :: r)[j], fun Q q => ⟨_, e0, true, .inl ⟨_, hs, rfl⟩, iteT ⟨_, e0, _, e3, s, _, _, _, rfl, rfl, hs, ea, q⟩⟩⟩
  cases hv : valV rs (Sum.inl (j : Int)) with
  | none =>
    rw [hv] at gb
    exact ⟨z, fun Q q => ⟨_, e1, t, _, rfl, g, b, rfl, .inl ⟨_, .inl hb⟩, _, e3, hz _ ⟨none, gb, q⟩⟩⟩
  | some v =>
    rw [hv] at gb
    obtain ⟨m, rfl⟩ := rest_val hr hv
    exact ⟨m, fun Q q => ⟨_, e1, t, _, rfl, g, b, rfl, .inl ⟨_, .inl hb⟩, _, e3, hz _ ⟨_, gb, q⟩⟩⟩
theorem drw_ok {p1 p2 p3 p4 p5 p6 p7 p8 p9 p10 p11 p12 p13 p14 p15 p16 p17 p18 p19 p20 p21 p22 p23 p24 p25 p26 p27 p28 p29 p30 p31 p32 p33 p34 p35 p36 p37 p38 p39 p40 p41 p42 p43 p44 p45 p46 p47 p48 p49 p50 p51 p52 p53 p54 p55 p56 p57 p58 p59 p60 p61 p62 p63 p64 p65 p66 p67 p68 p69 p70 p71 p72 p73 p74 p75 p76 p77 p78 p79 p80 p81 p82 p83 p84 p85 p86 : Pos} (F : FunD K x qual params bd sc [] [] f fd) (Sc : FnScope drwN drwP sc) (la : sc.names.lookup ("at" : Str) = some .local) (lr : sc.names.lookup ("rest" : Str) = some .local) (ln : sc.names.lookup ("number" : Str) = some .local) (hl : sc.names.lookup ("len" : Str) = some .globalImplicit)
    (hb : bd = drwB p1 p2 p3 p4 p5 p6 p7 p8 p9 p10 p11 p12 p13 p14 p15 p16 p17 p18 p19 p20 p21 p22 p23 p24 p25 p26 p27 p28 p29 p30 p31 p32 p33 p34 p35 p36 p37 p38 p39 p40 p41 p42 p43 p44 p45 p46 p47 p48 p49 p50 p51 p52 p53 p54 p55 p56 p57 p58 p59 p60 p61 p62 p63 p64 p65 p66 p67 p68 p69 p70 p71 p72 p73 p74 p75 p76 p77 p78 p79 p80 p81 p82 p83 p84 p85 p86) (hp : (p26.endLine == p34.line) = true) (mL : mg "len" = none) (hT : T.lookup i = some .drw) (hps : G.fps i = drwP) :
    FnOk P w K mg base (L2.CX P w) (4 * (k + 1)) f fd (G.fps i) (spC K mg G (callF gc T wn (k + 1)) i) := by
  rw [hps]
  refine F.ok (CX := L2.CX P w) Sc (fun vs H Q E h => by rw [← hps]; exact h.1) fun cdv A outer s H vs Q E hr h => ?_
  have v0 : Vis sc ("script" : Str) := vis_par Sc List.mem_cons_self
  have v1 : Vis sc ("town" : Str) := vis_par Sc (List.mem_cons_of_mem _ List.mem_cons_self)
  have v2 : Vis sc ("many" : Str) := vis_par Sc (List.mem_cons_of_mem _ (List.mem_cons_of_mem _ List.mem_cons_self))
  rw [hb]
  have hu : (A.deeper (envOfC qual sc s.heap.objs.size f cdv)).units + 1 < cLine := hu_of hr
  refine ⟨_, pss_cons (ps_dput hu (pe_var (i := 1) rfl v1) pe_str (pe_op op_add (pe_dget hu (pe_var (i := 1) rfl v1) pe_str fun _ _ => rfl) pe_int) rfl)
    (pss_cons (ps_set (i := 3) Sc.nd rfl (Or.inl la) (pe_ifExp (pt_truth (pe_var (i := 0) rfl v0) fun _ => rfl) (pe_op op_mod (pe_dget hu (pe_var (i := 1) rfl v1) pe_str fun _ _ => rfl) (pe_callB call_len hl mL boot_len (pa_cons (pe_var (i := 0) rfl v0) pa_nil))) pe_int))
    (pss_cons (ps_set (i := 4) Sc.nd rfl (Or.inl lr) (pe_dget2 hu (pe_dget hu (pe_var (i := 1) rfl v1) pe_str fun _ _ => rfl) (pe_var (i := 3) rfl (Or.inl la)) (pe_ifExp (pt_truth (pe_var (i := 0) rfl v0) fun _ => rfl) (pe_ix ix_list (pe_var (i := 0) rfl v0) (pe_var (i := 3) rfl (Or.inl la)) fun _ _ => rfl) pe_int) ⟨rfl, rfl, hp, rfl⟩))
    (pss_cons (ps_if (pt_cmpR op_ge (pe_var (i := 4) rfl (Or.inl lr)) (pe_op op_pow pe_int pe_int) rfl)
      (pss_cons (ps_dput hu (pe_dget hu (pe_var (i := 1) rfl v1) pe_str fun _ _ => rfl) (pe_var (i := 3) rfl (Or.inl la)) (pe_op op_fdiv (pe_var (i := 4) rfl (Or.inl lr)) (pe_var (i := 2) rfl v2)) rfl) (pss_one (ps_ret (pe_op op_mod (pe_var (i := 4) rfl (Or.inl lr)) (pe_var (i := 2) rfl v2))))) pss_nil)
    (pss_cons (ps_set (i := 5) Sc.nd rfl (Or.inl ln) (pe_op op_mod (pe_op op_add (pe_var (i := 4) rfl (Or.inl lr)) (pe_op op_mul pe_int (pe_dget hu (pe_var (i := 1) rfl v1) pe_str fun _ _ => rfl))) pe_int))
    (pss_cons (ps_set (i := 5) Sc.nd rfl (Or.inl ln) (pe_op op_mod (pe_op op_pow (pe_var (i := 5) rfl (Or.inl ln)) pe_int) pe_int))
    (pss_one (ps_ret (pe_op op_mod (pe_op op_fdiv (pe_op op_mod (pe_op op_add (pe_op op_mul (pe_op op_fdiv (pe_var (i := 5) rfl (Or.inl ln)) pe_int) pe_int) (pe_var (i := 5) rfl (Or.inl ln))) pe_int) pe_int) (pe_var (i := 2) rfl v2))))))))), ?_⟩
  obtain ⟨_, S, ds, has, r, rv, hb⟩ := h
  unfold callF at hb
  rw [hT] at hb
  replace hb : (drwD ds).All (PoC K mg G S H Q E) := hb
  unfold drwD at hb
  split at hb
  · rename_i n
    split at hb
    · rename_i hn
      obtain ⟨u0, r0, rfl, q0, rv⟩ := RVs.of_cons rv
      obtain ⟨u1, r1, rfl, q1, rv⟩ := RVs.of_cons rv
      obtain ⟨u2, r2, rfl, q2, rv⟩ := RVs.of_cons rv
      rw [rv.nil_iff]
      unfold RV at q0 q1 q2
      subst q0 q2
      obtain ⟨t, b, ht, rfl⟩ := q1
      obtain ⟨c, rs, h1, h2, hrs⟩ := r.twn t b ht
      obtain ⟨ns, hns, hsc⟩ := r.scr
      have htb : t ≠ b := fun e => by
        rw [e, h2] at h1
        have h1 := HO.dK.inj (Option.some.inj h1)
        obtain ⟨j, m, e2, _⟩ := hrs.2 (kCount, V.int c) (by rw [h1]; exact List.mem_cons_self)
        cases e2
      replace hb : ∀ m, m < n.toNat → PoC K mg G S H Q E (.ok (.int m)) := hb
      have g1 := DGet.k (k := kCount) h1
      rw [town_count] at g1
      have d1 := DPut.k (k := kCount) (v := .int ((c : Int) + 1)) h1 (by rw [sizeLine_eq]; show 2 < _; decide)
      rw [town_put] at d1
      generalize e1 : upd H t (.dK [(kCount, V.int ((c : Int) + 1)), (kRests, V.ref b)]) = H1 at d1
      have t1 : H1 t = some (.dK [(kCount, V.int ((c + 1 : Nat) : Int)), (kRests, V.ref b)]) := by rw [← e1]; simp [upd]
      have b1 : H1 b = some (.dK rs) := by rw [← e1]; simp [upd, Ne.symm htb, h2]
      have k1 : ∀ a, a ≠ t → H1 a = H a := fun a ha => by rw [← e1]; simp [upd, ha]
      obtain ⟨x1, r1⟩ := town_ext has r ht ⟨c, rs, h1, h2, hrs⟩ t1 b1 hrs fun a ha _ => k1 a ha
      have s1 : SqL K H1 S.sc (ns.map V.int) := by
        rcases hsc with ⟨o, hsc⟩ | hsc
        · refine .inl (.inr ⟨o, ?_⟩)
          rw [k1 S.sc fun e => by rw [e, h1] at hsc; cases hsc]
          exact hsc
        · rcases hsc with ⟨hsc, _⟩ | hsc
          · left; left
            rw [k1 S.sc fun e => by rw [e, h1] at hsc; cases hsc]
            exact hsc
          · exact .inr hsc
      refine ⟨_, rfl, t, .int c, rfl, g1, (c : Int), 1, rfl, rfl, _, rfl, t, H1, rfl, d1, ?_⟩
      obtain ⟨j, j1, j2, hat⟩ := at_ok (σ := L2.start drwN [V.ref S.sc, V.ref t, V.int n]) rfl rfl s1 hns t1
      refine hat _ ?_
      obtain ⟨m, hre⟩ := rest_ok (σ := (L2.start drwN [V.ref S.sc, V.ref t, V.int n]).set 3 (some (.int j))) (j := j) rfl rfl rfl s1 j2 t1 b1 hrs
      dsimp only [gName, tSeq, tAsg]
      refine hre _ ?_
      have fin : ∀ (H2 : Hp) (z : Int), Ext S H S H2 → RelH K S H2 [] → 0 ≤ z → z < n → Q (.int z) H2 := fun H2 z x2 r2 z0 z1 => by
        have := hb z.toNat (by omega) S (.int z) H2 x2 has r2 (by unfold RV; rw [Int.toNat_of_nonneg z0])
        exact this
      have g2 := DGet.k (k := kCount) t1
      rw [town_count] at g2
      have g3 := DGet.k (k := kRests) t1
      rw [town_rests] at g3
      refine ⟨_, rfl, 10, 18, rfl, rfl, ⟨by decide, by decide, by decide⟩, m, _, rfl, rfl, _, rfl, ?_⟩
      cases hd : decide ((10 : Int) ^ (18 : Int).toNat ≤ m) with
      | true =>
        refine iteT ?_
        have d2 := DPut.k (k := Sum.inl (j : Int)) (v := .int (m / n)) b1 (rest_len hrs)
        refine ⟨_, rfl, _, rfl, m, n, rfl, rfl, ⟨hn.1, by omega⟩, _, rfl, t, _, rfl, g3, _, rfl, b, _, rfl, d2, ?_⟩
        refine ⟨_, rfl, _, rfl, m, n, rfl, rfl, hn.1, ?_⟩
        obtain ⟨x2, r2⟩ := town_ext (H' := upd H1 b (.dK (putK rs (Sum.inl (j : Int)) (.int (m / n))))) (c := c + 1) has r ht ⟨c, rs, h1, h2, hrs⟩ (by show (if t = b then _ else H1 t) = _; rw [if_neg htb, t1]) upd_same (rest_put hrs j1) fun a ha hb => (upd_ne hb).trans (k1 a ha)
        exact fin _ _ x2 r2 (Int.emod_nonneg _ (by omega)) (Int.emod_lt_of_pos _ hn.1)
      | false =>
        refine iteF ?_
        refine ⟨_, rfl, _, rfl, t, _, rfl, g2, 104729, _, rfl, rfl, .inl ⟨by decide, by decide⟩, m, _, rfl, rfl, _, _, rfl, rfl, (show (0 : Int) < 4294967291 by decide), ?_⟩
        refine ⟨_, rfl, _, _, rfl, rfl, ⟨by decide, by decide, ?_⟩, _, _, rfl, rfl, (show (0 : Int) < 4294967279 by decide), ?_⟩
        · have a1 := Int.emod_nonneg (m + 104729 * ((c + 1 : Nat) : Int)) (b := 4294967291) (by decide)
          have a2 := Int.emod_lt_of_pos (m + 104729 * ((c + 1 : Nat) : Int)) (b := 4294967291) (by decide)
          omega
        · refine ⟨_, rfl, _, _, rfl, rfl, ⟨by decide, by decide⟩, _, _, rfl, rfl, .inr ⟨by decide, by decide⟩, _, rfl, _, _, rfl, rfl, _, _, rfl, rfl, (show (0 : Int) < 4294967231 by decide), _, _, rfl, rfl, ⟨by decide, by decide⟩, _, rfl, _, _, rfl, rfl, hn.1, ?_⟩
          exact fin _ _ x1 r1 (Int.emod_nonneg _ (by omega)) (Int.emod_lt_of_pos _ hn.1)
    · exact hb.elim
  · exact hb.elim
theorem beg_ok {p1 p2 p3 p4 p5 p6 : Pos} (F : FunD K x qual params bd sc [] [] f fd) (Sc : FnScope [] [] sc) (hb : bd = begB p1 p2 p3 p4 p5 p6) (hT : T.lookup i = some .beg) (hps : G.fps i = []) :
    FnOk P w K mg base (L2.CX P w) (4 * (k + 1)) f fd (G.fps i) (spC K mg G (callF gc T wn (k + 1)) i) := by
  rw [hps]
  refine F.ok (CX := L2.CX P w) Sc (fun vs H Q E h => by rw [← hps]; exact h.1) fun cdv A outer s H vs Q E hr h => ?_
  rw [hb]
  refine ⟨_, pss_one (ps_ret (pe_disp (pps_cons pe_str pe_int (pps_cons pe_str pe_dnewK pps_nil)) rfl rfl (by simp) (by show 2 ≤ 15; decide))), ?_⟩
  obtain ⟨_, S, ds, has, r, rv, hb⟩ := h
  unfold callF at hb
  rw [hT] at hb
  cases ds with
  | cons d ds => exact hb.elim
  | nil =>
    rw [rv.nil_iff]
    replace hb : PoC K mg G S H Q E (.ok (.opq 1)) := hb
    intro t nt b nb
    have nb' : H b = none := by
      have nb : (upd H t (.dK [])) b = none := nb
      unfold upd at nb
      split at nb
      · cases nb
      · exact nb
    have hbt : b ≠ t := fun e => by
      have nb : (upd H t (.dK [])) b = none := nb
      rw [e] at nb
      simp [upd] at nb
    refine ⟨by simp [upd, Ne.symm hbt], [(kCount, .int 0), (kRests, .ref b)], rfl, by show 2 ≤ 15; decide, ?_⟩
    have em : mergeK [] [(kCount, V.int 0), (kRests, V.ref b)] = [(kCount, V.int 0), (kRests, V.ref b)] := by
      have h1 : ¬ kCount = kRests := fun h => by have := kv_ne; rw [eq_true h.symm] at this; exact absurd this (by simp)
      simp [mergeK, putK, h1]
    rw [em]
    have kk : ∀ a o, H a = some o → a ≠ t ∧ a ≠ b := fun a o e => ⟨fun z => (by rw [z, nt] at e; cases e), fun z => (by rw [z, nb'] at e; cases e)⟩
    have hk : ∀ a, a ≠ t → a ≠ b → upd (upd (upd H t (.dK [])) b (.dK [])) t (.dK [(kCount, V.int 0), (kRests, V.ref b)]) a = H a := fun a h1 h2 => by simp [upd, h1, h2]
    generalize eH : upd (upd (upd H t (.dK [])) b (.dK [])) t (.dK [(kCount, V.int 0), (kRests, V.ref b)]) = H1 at hk
    have t1 : H1 t = some (.dK [(kCount, V.int ((0 : Nat) : Int)), (kRests, V.ref b)]) := by rw [← eH]; simp [upd]
    have b1 : H1 b = some (.dK []) := by rw [← eH]; simp [upd, hbt]
    have kp : ∀ a o, H a = some o → H1 a = some o := fun a o e => by rw [hk a (kk a o e).1 (kk a o e).2]; exact e
    have x : Ext S H { S with tw := fun t' b' => S.tw t' b' ∨ (t' = t ∧ b' = b) } H1 := by
      refine ⟨⟨[], by simp⟩, fun a o e n => ⟨o, kp a o e, n⟩, fun _ _ _ _ h => h, fun _ h => h, fun _ _ _ _ h => .inl h, fun a o e _ _ _ _ => kp a o e, rfl, fun _ _ h => .inl h, fun a o e _ m => ?_, fun _ _ _ h => h, fun _ _ _ _ h => h, fun a o e _ _ _ _ => kp a o e⟩
      obtain ⟨t', b', m | ⟨rfl, rfl⟩, z⟩ := m
      · exact ⟨t', b', m, z⟩
      · rcases z with z | z
        · exact absurd z (kk a o e).1
        · exact absurd z (kk a o e).2
    refine hb { S with tw := fun t' b' => S.tw t' b' ∨ (t' = t ∧ b' = b) } (.ref t) H1 x has ⟨r.len, r.nd, fun n o e => by simp at e, r.sep, r.keepS x r.scr, fun t' b' e => ?_, fun a m => ?_, r.tab.ext kp, fun d j o m => r.mapM x m (by
      obtain ⟨es, q⟩ := r.notMm ⟨j, o, m⟩
      rw [q, kp _ _ q]), r.mmu, r.omm⟩ ?_
    · rcases e with e | ⟨rfl, rfl⟩
      · obtain ⟨c', rs', g1, g2, g3⟩ := r.twn t' b' e
        exact ⟨c', rs', kp _ _ g1, kp _ _ g2, g3⟩
      · exact ⟨0, [], t1, b1, List.nodup_nil, fun p hp => by cases hp⟩
    · obtain ⟨o, q, n⟩ := r.fzs a m
      exact x.kp a o q n
    · unfold RV
      exact ⟨t, b, .inr ⟨rfl, rfl⟩, rfl⟩
end
end Bk
namespace Bk
open PySem PySem.Spec PyProof.Rows L2
def CXs (P : Program) : CXT := fun outer H s E e s' => ∃ w, L2.CX P w outer H s E e s'
theorem cxs_no {P : Program} {H : Hp} {s : Shared} {e : Value} {s' : Shared} (h : CXs P [] H s (fun _ _ _ => False) e s') : False := by
  obtain ⟨w, h⟩ := h
  obtain ⟨_, _, _, _, _, _, _, _, _, _, _, _, z⟩ := h
  exact z.elim
theorem walk_ofTE {l : PySem.W.OpenLaw} {n k : Nat} {q : Program} {loose : List Str} {XP : (Str → Option Value) → Heap → Prop} {YP : World → Heap → Prop} {d : DefRec} {CX : CXT} {x : Str} (hn : l.most = some n) (hn2 : n ≤ sizeLine) (hdf : d.params.defaults = []) (hr : Room k callerA)
    (F : ∀ (w : World) (mg : Str → Option Value) (fa : Addr) (h : Heap), YP w h → h.Ns mainGlobals mg → mg d.name = some (.ref fa) → ∃ (K : PySem.W.Frag) (fd : FuncData) (cs : List (Addr × Addr)) (sp : Sp), K.In h ∧ (∀ p ∈ cs, h.get? p.2 = some { cls := .none, data := .fields #[] }) ∧ (∀ p ∈ cs, K.lookup p.2 = none) ∧ (∀ p ∈ cs, PySem.W.CodeHd h p.1 p.2) ∧
      (∀ (s : Shared) (u : Value), BindsTo s fd ⟨[u], []⟩ [(x, u)]) ∧ (∀ (H : Hp) (a : Addr) (ns : List Int), ns.length ≤ n → (∀ p ∈ cs, H p.2 = some (.tbl #[])) → SqL K H a (ns.map V.int) → sp [.ref a] H (fun v _ => v = .bl true) fun _ _ _ => False) ∧
      ∀ base : Heap, K.In base → base.Ns mainGlobals mg → (∀ p ∈ cs, LamX.TabB base mg p.1 p.2) → FnOk l.prog w K mg base CX k fa fd [x] sp)
    (hCX : ∀ (H : Hp) (s : Shared) (e : Value) (s' : Shared), CX [] H s (fun _ _ _ => False) e s' → False) : PySem.W.WalkO q loose XP YP l.row.toRowW d [] (fun f vs => PySem.call f vs) := by
  refine Att.attach_call hn hdf fun w s₀ s₁ mg mb fa o pm cd doc a vs ns G Y ho hd hcd hmg hobj hints hlen hg => ?_
  obtain ⟨K, fd, cs, sp, KX, hT, nT, C, hb, hsp, hF⟩ := F w mg fa _ Y G.T.g hmg
  exact LamX.law_callTs KX G.T.g G.T.b G.T.builtins G.T.nolimit hg hT nT C G.T.bmain hobj hints (Nat.le_trans hlen hn2) hr hF hb (fun H hH hS => hsp H a ns hlen hH hS) fun H e s' => hCX H s₁ e s'
variable [MF] [PWc]
section
variable {P : Program} {w : World} {K : PySem.W.Frag} {mg : Str → Option Value} {base : Heap} {G : Nm} {gc : Gc} {T : Tab} {wn : Nat}
def FOk (P : Program) (w : World) (K : PySem.W.Frag) (mg : Str → Option Value) (G : Nm) (gc : Gc) (T : Tab) (wn : Nat) (i : Nat) : Prop :=
  ∃ (fa : Addr) (fd : FuncData), mg (G.fnm i) = some (.ref fa) ∧ PySem.W.keepIn K (.ref fa) = true ∧ Binds K fd (G.fps i) [] ∧
    (i ∈ G.ks → ∀ (s : Shared) (us ws : List Value), K.In s.heap → (us ++ ws).length = (G.fps i).length → BindsTo s fd ⟨us, ((G.fps i).drop us.length).zip ws⟩ ((G.fps i).zip (us ++ ws))) ∧
    ∀ (base : Heap) (k : Nat), Wok P w K mg base k G gc (callF gc T wn k) → FnOk P w K mg base (L2.CX P w) (4 * (k + 1)) fa fd (G.fps i) (spC K mg G (callF gc T wn (k + 1)) i)
def MOk (P : Program) (w : World) (K : PySem.W.Frag) (mg : Str → Option Value) (G : Nm) (gc : Gc) (T : Tab) (wn : Nat) (q : Nat × Nat) : Prop :=
  ∃ (fa : Addr) (fd : FuncData), ClsK K q.1 ∧ Meth K (He.ga K (cnm q.1)) (G.fnm q.2) fa ∧ Binds K fd (G.fps q.2) [] ∧
    ∀ (base : Heap) (k : Nat), Wok P w K mg base k G gc (callF gc T wn k) → FnOk P w K mg base (L2.CX P w) (4 * (k + 1)) fa fd (G.fps q.2) (spC K mg G (callF gc T wn (k + 1)) q.2)
def IOk (P : Program) (w : World) (K : PySem.W.Frag) (mg : Str → Option Value) (G : Nm) (gc : Gc) (T : Tab) (wn : Nat) (f : Nat) : Prop :=
  ∃ (fa : Addr) (fd : FuncData), mg (G.fnm f) = some (.ref (He.ga K (cnm (G.ic f)))) ∧ ClsK K (G.ic f) ∧ Mk K (He.ga K (cnm (G.ic f))) fa ∧ Binds K fd (G.fps f) [] ∧
    ∀ (base : Heap) (k : Nat), Wok P w K mg base k G gc (callF gc T wn k) → FnOk P w K mg base (L2.CX P w) (4 * (k + 1)) fa fd (G.fps f) (spI K mg G (callF gc T wn (k + 1)) f (G.ic f))
def JOk (P : Program) (w : World) (K : PySem.W.Frag) (mg : Str → Option Value) (G : Nm) (gc : Gc) (T : Tab) (wn : Nat) (f : Nat) : Prop :=
  ∃ (fa : Addr) (fd : FuncData), mg (G.fnm f) = some (.ref (He.ga K (cnm (G.ic f)))) ∧ ClsK K (G.ic f) ∧ Mk K (He.ga K (cnm (G.ic f))) fa ∧ Binds K fd (G.fps f) [] ∧ (f ∈ G.ks → BK K fd (G.fps f)) ∧
    ∀ (base : Heap) (k : Nat), Wok P w K mg base k G gc (callF gc T wn k) → FnOk P w K mg base (L2.CX P w) (4 * (k + 1)) fa fd (G.fps f) (spJ K mg G (callF gc T wn (k + 1)) f (G.ic f))
def WOk (P : Program) (w : World) (K : PySem.W.Frag) (mg : Str → Option Value) (G : Nm) (gc : Gc) (T : Tab) (wn : Nat) (q : Nat × Nat) : Prop :=
  ∃ (fa : Addr) (fd : FuncData), ClsK K q.1 ∧ Meth K (He.ga K (cnm q.1)) (G.fnm q.2) fa ∧ Binds K fd (G.fps q.2) [] ∧ (q.2 ∈ G.ks → BK K fd (G.fps q.2)) ∧
    ∀ (base : Heap) (k : Nat), Wok P w K mg base k G gc (callF gc T wn k) → FnOk P w K mg base (L2.CX P w) (4 * (k + 1)) fa fd (G.fps q.2) (spM K mg G (callF gc T wn (k + 1)) q.2)
def GOk (K : PySem.W.Frag) (mg : Str → Option Value) (G : Nm) (gc : Gc) (g : Nat) : Prop := ∃ a, mg (G.gnm g) = some (.ref a) ∧ ∀ S H, RV K S H (gc g) (.ref a)
def EOk (K : PySem.W.Frag) (mg : Str → Option Value) (G : Nm) (c : Nat) : Prop := ∃ C, mg (G.enm c) = some (.ref C) ∧ PySem.W.excIn K C veTail "ValueError.__new__" = true ∧ PySem.W.keepIn K (.ref C) = true ∧ PySem.W.subIn K (.ref C) (.type "BaseException") = some true ∧ PySem.W.typeIn K (.ref C) = some (.type "type")
theorem wok (hb : ∀ x ∈ bltN, mg x = none) (hf : ∀ i ∈ G.fs, FOk P w K mg G gc T wn i) (hg : ∀ g ∈ G.gs, GOk K mg G gc g) (he : ∀ c ∈ G.es, EOk K mg G c) (base : Heap) (hr : G.rs = true → ResW P w K mg base G) (ht : ∀ x ∈ tdf K, LamX.TabB base mg (He.cT K (x, none)).1 (He.cT K (x, none)).2) (hu : ∀ p ∈ tbl K, ∀ q ∈ tbl K, p.1 = q.1 → p.2 = q.2) (hmm : ∀ q ∈ G.mc, MOk P w K mg G gc T wn q) (hmi : ∀ f ∈ G.mi, IOk P w K mg G gc T wn f) (hmj : ∀ f ∈ G.mj, JOk P w K mg G gc T wn f) (hmw : ∀ q ∈ G.mw, WOk P w K mg G gc T wn q) (hoc : ∀ c ∈ G.oc, OwnC K mg c) : ∀ k, Wok P w K mg base k G gc (callF gc T wn k)
  | 0 => ⟨hb, fun f m => by
      obtain ⟨fa, fd, h1, h2, h3, h4, _⟩ := hf f m
      exact ⟨fa, fd, h1, h2, h3, h4, fn_zero f⟩, hg, he, hr, ht, hu, fun q m => by
      obtain ⟨fa, fd, h1, h2, h3, _⟩ := hmm q m
      exact ⟨fa, fd, h1, h2, h3, fn_zero q.2⟩, fun f m => by
      obtain ⟨fa, fd, h1, h2, h3, h4, _⟩ := hmi f m
      exact ⟨fa, fd, h1, h2, h3, h4, init_zero f _⟩, fun f m => by
      obtain ⟨fa, fd, h1, h2, h3, h4, h6, _⟩ := hmj f m
      exact ⟨fa, fd, h1, h2, h3, h4, h6, initJ_zero f _⟩, fun q m => by
      obtain ⟨fa, fd, h1, h2, h3, h6, _⟩ := hmw q m
      exact ⟨fa, fd, h1, h2, h3, h6, mfn_zero q.2⟩, hoc⟩
  | k + 1 => ⟨hb, fun f m => by
      obtain ⟨fa, fd, h1, h2, h3, h4, h5⟩ := hf f m
      exact ⟨fa, fd, h1, h2, h3, h4, h5 base k (wok hb hf hg he base hr ht hu hmm hmi hmj hmw hoc k)⟩, hg, he, hr, ht, hu, fun q m => by
      obtain ⟨fa, fd, h1, h2, h3, h5⟩ := hmm q m
      exact ⟨fa, fd, h1, h2, h3, h5 base k (wok hb hf hg he base hr ht hu hmm hmi hmj hmw hoc k)⟩, fun f m => by
      obtain ⟨fa, fd, h1, h2, h3, h4, h5⟩ := hmi f m
      exact ⟨fa, fd, h1, h2, h3, h4, h5 base k (wok hb hf hg he base hr ht hu hmm hmi hmj hmw hoc k)⟩, fun f m => by
      obtain ⟨fa, fd, h1, h2, h3, h4, h6, h5⟩ := hmj f m
      exact ⟨fa, fd, h1, h2, h3, h4, h6, h5 base k (wok hb hf hg he base hr ht hu hmm hmi hmj hmw hoc k)⟩, fun q m => by
      obtain ⟨fa, fd, h1, h2, h3, h6, h5⟩ := hmw q m
      exact ⟨fa, fd, h1, h2, h3, h6, h5 base k (wok hb hf hg he base hr ht hu hmm hmi hmj hmw hoc k)⟩, hoc⟩
def scB (N ps : List Str) (sc : Scope) : Bool := (match sc.kind with
  | .function => true
  | _ => false) && !sc.isCoroutine && !sc.isGenerator && decide N.Nodup && decide (N.take ps.length = ps) && (ps.all fun x => match sc.names.lookup x with
  | some .local => true
  | some .cell => true
  | _ => false) && sc.names.all fun y => match y.2 with
  | .free => false
  | _ => true
theorem scB_ok {N ps : List Str} {sc : Scope} (h : scB N ps sc = true) : FnScope N ps sc := by
  unfold scB at h
  simp only [Bool.and_eq_true, decide_eq_true_eq, List.all_eq_true, Bool.not_eq_true'] at h
  obtain ⟨⟨⟨⟨⟨⟨h1, h2⟩, h3⟩, h4⟩, h5⟩, h6⟩, h7⟩ := h
  refine ⟨?_, h2, h3, h4, h5, fun x hx => ?_, fun y hy e => ?_⟩
  · split at h1
    · assumption
    · cases h1
  · have := h6 x hx
    split at this
    · rename_i e
      exact .inl e
    · rename_i e
      exact .inr e
    · cases this
  · have := h7 y hy
    rw [e] at this
    cases this
def fnB (G : Nm) (T : Tab) (i : Nat) (g : Fn) (N : List Str) (sc : Scope) (body : List Stmt) : Bool :=
  scB N (G.fps i) sc && mSs G N sc g.body body && Nat.beq g.np (G.fps i).length && Nat.beq g.ns N.length
theorem step_fn {x qual : Str} {params : Arguments} {body : List Stmt} {sc : Scope} {f : Addr} {fd : FuncData} {N : List Str} {g : Fn} {i : Nat} (F : FunD K x qual params body sc [] [] f fd) (hT : T.lookup i = some (.fn g)) {lb : Bool} (h : fnB { G with lm := lb } T i g N sc body = true) (hx : lb = true → x = qual ∧ f = He.fAd K (x, none) ∧ x ∈ tdf K) (hpw : P = PWc.P ∧ w = PWc.w) (base : Heap) (k : Nat)
    (W : Wok P w K mg base k G gc (callF gc T wn k)) : FnOk P w K mg base (L2.CX P w) (4 * (k + 1)) f fd (G.fps i) (spC K mg G (callF gc T wn (k + 1)) i) := by
  unfold fnB at h
  simp only [Bool.and_eq_true] at h
  obtain ⟨⟨⟨h1, h2⟩, h3⟩, h4⟩ := h
  exact fn_ok (G := { G with lm := lb }) F (scB_ok h1) h2 (Nat.eq_of_beq_eq_true h3) (Nat.eq_of_beq_eq_true h4) hT hx hpw W.lm
theorem gok {x : Str} {vs : List He.Dv} {ss : List (List Nat)} {g : Nat} (h0 : G.gnm g = x) (h1 : mg x = some (.ref (He.ga K x))) (h2 : He.tupB K x vs = true) (h3 : gc g = .tup (ss.map D.str)) (h4 : vs = ss.map fun s => He.Dv.str ⟨s.toArray⟩) : GOk K mg G gc g := by
  refine ⟨He.ga K x, by rw [h0]; exact h1, fun S H => ?_⟩
  rw [h3]
  unfold RV
  refine ⟨_, _, rfl, He.tupB_ok h2 H, ?_⟩
  subst h4
  clear h2 h3 h1 h0
  induction ss with
  | nil => exact .nil
  | cons s ss ih => exact .cons (by unfold RV; rfl) ih
theorem FnOk.some {k : Nat} {f : Addr} {fd : FuncData} {ps : List Str} {sp : Sp} (F : FnOk P w K mg base (L2.CX P w) k f fd ps sp) : FnOk P w K mg base (CXs P) k f fd ps sp :=
  ⟨F.len, fun A outer s H args us vs Q E h1 h2 h3 h4 h5 => codeAny_mono (F.run A outer s H args us vs Q E h1 h2 h3 h4 h5) fun r s' g => by
    cases r with
    | error e => exact ⟨w, g⟩
    | ok u => cases u <;> exact g⟩
theorem law_sp {k i : Nat} (hp : (G.fps i).length = 1) (hl : (callF gc T wn k i [.opq 0]).All fun r => r = .ok (.bl true)) (H : Hp) (a : Addr) (ns : List Int) (hn : ns.length ≤ 63) (ho : ∀ p ∈ (tdf K).map fun x => He.cT K (x, none), H p.2 = some (.tbl #[])) (hs : SqL K H a (ns.map V.int)) :
    spC K mg G (callF gc T wn k) i [.ref a] H (fun v _ => v = .bl true) fun _ _ _ => False := by
  have htab : LamX.Tabs (tbl K) H := fun p hp => by
    obtain ⟨x, hx, rfl⟩ := List.mem_map.mp hp
    exact LamX.TabS.nil (ho _ (List.mem_map.mpr ⟨x, hx, rfl⟩))
  refine ⟨hp.symm, ⟨[], fun b => H b = some (.lst (ns.map V.int)), a, fun _ _ => False, fun _ _ _ => False⟩, [.opq 0], rfl, ⟨rfl, List.nodup_nil, fun n o e => by simp at e, fun n a o e1 e2 => (by cases e2), ⟨ns, hn, ?_⟩, fun _ _ e => e.elim, fun b m => ⟨_, m, nt_lst⟩, htab, fun _ _ _ e => e.elim, fun _ _ _ _ _ e => e.elim, fun _ _ ⟨_, _, e⟩ => e.elim⟩, .cons (by unfold RV; rfl) .nil, F.All.imp (fun r e => ?_) hl⟩
  · rcases hs with (hs | hs) | hs
    · exact .inr (.inl ⟨hs, hs⟩)
    · exact .inl hs
    · exact .inr (.inr hs)
  · subst e
    intro S' v H' _ _ _ q
    unfold RV at q
    exact q
end
end Bk
namespace Bk
variable [MF]
class Has (T : Tab) (i : Nat) (g : Fn) : Prop where
  h : T.lookup i = some (.fn g)
class HasD (T : Tab) (i : Nat) : Prop where
  h : T.lookup i = some .drw
class HasB (T : Tab) (i : Nat) : Prop where
  h : T.lookup i = some .beg
theorem call_drw {gc : Gc} {T : Tab} {wn k i : Nat} [H : HasD T i] (n : Int) (h : 0 < n ∧ n ≤ 1000000) : callF gc T wn (k + 1) i [.opq 0, .opq 1, .int n] = .draw n.toNat fun r => ok (.int (r : Nat)) := by
  show (match T.lookup i with
    | some (.fn g) => runF gc (callF gc T wn k) wn g [.opq 0, .opq 1, .int n]
    | some (.ini c g) => runI gc (callF gc T wn k) wn c g [.opq 0, .opq 1, .int n]
    | some (.inm c g) => runJ gc (callF gc T wn k) wn c g [.opq 0, .opq 1, .int n]
    | some (.mfn g) => runM gc (callF gc T wn k) wn g [.opq 0, .opq 1, .int n]
    | some .drw => drwD [.opq 0, .opq 1, .int n]
    | some .beg => .stk
    | none => .stk) = _
  rw [H.h]
  show (if 0 < n ∧ n ≤ 1000000 then _ else _) = _
  rw [if_pos h]
theorem call_beg {gc : Gc} {T : Tab} {wn k i : Nat} [H : HasB T i] : callF gc T wn (k + 1) i [] = ok (.opq 1) := by
  show (match T.lookup i with
    | some (.fn g) => runF gc (callF gc T wn k) wn g []
    | some (.ini c g) => runI gc (callF gc T wn k) wn c g []
    | some (.inm c g) => runJ gc (callF gc T wn k) wn c g []
    | some (.mfn g) => runM gc (callF gc T wn k) wn g []
    | some .drw => drwD []
    | some .beg => ok (.opq 1)
    | none => .stk) = _
  rw [H.h]
theorem call_has {gc : Gc} {T : Tab} {wn k i : Nat} (g : Fn) [H : Has T i g] (ds : List D) : callF gc T wn (k + 1) i ds = runF gc (callF gc T wn k) wn g ds := by
  show (match T.lookup i with
    | some (.fn g) => runF gc (callF gc T wn k) wn g ds
    | some (.ini c g) => runI gc (callF gc T wn k) wn c g ds
    | some (.inm c g) => runJ gc (callF gc T wn k) wn c g ds
    | some (.mfn g) => runM gc (callF gc T wn k) wn g ds
    | some .drw => drwD ds
    | some .beg => match ds with
      | [] => ok (.opq 1)
      | _ => .stk
    | none => .stk) = _
  rw [H.h]
abbrev vs (s : List Nat) : Option Vv := some (.d (.str s))
abbrev vi (i : Int) : Option Vv := some (.d (.int i))
abbrev vd (x : D) : Option Vv := some (.d x)
@[irreducible] def F.Al {α : Type} (P : α → Prop) (m : F α) : Prop := m.All P
theorem al_iff {α : Type} {P : α → Prop} {m : F α} : m.Al P ↔ m.All P := by
  unfold F.Al
  exact Iff.rfl
theorem al_ret {α : Type} {P : α → Prop} {a : α} (k : P a) : (F.ret a).Al P := al_iff.mpr k
theorem Al_ret {α : Type} {P : α → Prop} {a : α} : (F.ret a).Al P ↔ P a := al_iff
theorem Al_bind {α β : Type} {P : β → Prop} {f : α → F β} {m : F α} : (m.bind f).Al P ↔ m.Al fun a => (f a).Al P :=
  al_iff.trans (F.All_bind.trans ⟨fun h => al_iff.mpr (F.All.imp (fun a ha => al_iff.mpr ha) h), fun h => F.All.imp (fun a ha => al_iff.mp ha) (al_iff.mp h)⟩)
theorem al_imp {α : Type} {P Q : α → Prop} {m : F α} (q : m.Al P) (h : ∀ a, P a → Q a) : m.Al Q := al_iff.mpr (F.All.imp h (al_iff.mp q))
section
variable {gc : Gc} {cl : Cl} {wn : Nat} {s : Sx} {ss a b : Ss} {e e1 : En} {h h1 : Hq} {P Q : Fl → Prop} {v : Vv} {c : Tx} {r : F Fl} {x : Nat}
theorem st_nx (q : exS gc cl wn s e h = .ret (.nx e1 h1)) (k : (exSs gc cl wn ss e1 h1).Al P) : (exSs gc cl wn (.cons s ss) e h).Al P := by
  rw [exSs, q]
  exact k
theorem st_all (q : (exS gc cl wn s e h).Al Q) (k : ∀ r, Q r → match r with
    | .nx e1 h1 => (exSs gc cl wn ss e1 h1).Al P
    | r => P r) : (exSs gc cl wn (.cons s ss) e h).Al P := by
  rw [exSs]
  refine Al_bind.mpr (al_imp q fun r hr => ?_)
  have := k r hr
  cases r with
  | nx e h => exact this
  | _ => exact al_ret this
theorem st_rt (q : exS gc cl wn s e h = .ret (.rt v h1)) (k : P (.rt v h1)) : (exSs gc cl wn (.cons s ss) e h).Al P := by
  rw [exSs, q]
  exact al_ret k
theorem sq_if0 (q : evT gc cl c e h = ok false) : exS gc cl wn (.ife c a b) e h = exSs gc cl wn b e h := by
  rw [exS, q]
  rfl
theorem call_all {T : Tab} {k i np ns : Nat} {bd : Ss} (g : Fn) [Has T i g] {ds : List D} {R : Rx D → Prop} (hg : g = ⟨np, ns, bd⟩) (he : ds.map (fun d => some (.d d)) ++ List.replicate (ns - np) none = e) (hn : Nat.beq ds.length np = true) (q : (exSs gc (callF gc T wn k) wn bd e []).Al fun r => (endD r).Al R) : (callF gc T wn (k + 1) i ds).Al R := by
  subst hg he
  rw [call_has ⟨np, ns, bd⟩, runF, hn]
  exact Al_bind.mpr q
end
section
variable {gc : Gc} {cl : Cl} {wn : Nat} {e : En} {h : Hq} {tg : Tg} {a b c x : Ex} {i j : Int} {xs : List D} {it : Ix} {bd : Ss}
theorem ev_rg1 (ha : evE gc cl a e h = ok (.d (.int i))) (hr : rngD 0 i = some xs) : evI gc cl (.rg1 a) e h = ok xs := by
  rw [evI, ha]
  show lf (rngD 0 i) = _
  rw [hr]
  rfl
theorem ex_for (ho : isOwn it = false) (hi : evI gc cl it e h = ok xs) : exS gc cl wn (.for_ tg it bd) e h = forL tg (fun e h => exSs gc cl wn bd e h) xs e h := by
  rw [exS, ho, hi]
  rfl
end
theorem add_ii (a b : Int) : addD (.int a) (.int b) = some (.int (a + b)) := rfl
theorem sub_ii (a b : Int) : subiD (.int a) (.int b) = some (.int (a - b)) := rfl
theorem lt_ii (a b : Int) : ltD (.int a) (.int b) = some (decide (a < b)) := rfl
theorem gt_ii (a b : Int) : gtD (.int a) (.int b) = some (decide (b < a)) := rfl
theorem le_ii (a b : Int) : leD (.int a) (.int b) = some (decide (a ≤ b)) := rfl
mutual
theorem beq_self : ∀ (d : D) (n : Nat), D.shp n d = true → D.beq d d = true
  | .non, _, _ => by simp [D.beq]
  | .bl b, _, _ => by simp [D.beq]
  | .int i, _, _ => by simp [D.beq]
  | .str s, _, _ => by simp [D.beq]
  | .lst xs, 0, h => by simp [D.shp] at h
  | .lst xs, n + 1, h => by rw [D.beq]; exact beqs_self xs n h
  | .tup xs, 0, h => by simp [D.shp] at h
  | .tup xs, n + 1, h => by rw [D.beq]; exact beqs_self xs n h
  | .opq _, 0, h => by simp [D.shp] at h
  | .opq _, n + 1, h => by simp [D.shp] at h
theorem beqs_self : ∀ (ds : List D) (n : Nat), D.shps n ds = true → D.beqs ds ds = true
  | [], _, _ => by simp [D.beqs]
  | x :: xs, n, h => by
    rw [D.shps, Bool.and_eq_true] at h
    rw [D.beqs, beq_self x n h.1, beqs_self xs n h.2]
    rfl
end
theorem rng_nat {lo hi : Int} {a b : Nat} (ha : lo = (a : Int)) (hb : hi = (b : Int)) (h1 : a ≤ 1000) (h2 : b ≤ 1000) : rngD lo hi = some ((List.range (b - a)).map fun i : Nat => D.int ((a + i : Nat) : Int)) := by
  subst ha hb
  unfold rngD
  rw [if_pos ⟨⟨by omega, by omega⟩, by omega, by omega⟩]
  have e : ((b : Int) - (a : Int)).toNat = b - a := by omega
  rw [e]
  simp only [Int.natCast_add]
theorem min_two (a b : Nat) : minD [.int a, .int b] = some (.int (min a b : Nat)) := by
  show some (D.int (if (b : Int) < (a : Int) then (b : Int) else (a : Int))) = _
  congr 2
  split <;> omega
end Bk
namespace Bk
variable [MF]
def b_is_between : Fn := ⟨3, 3, (.cons (.ret (.and (.isi .int (.var 0)) (.and (.not (.isi .bool (.var 0))) (.chn .le .le (.var 1) (.var 0) (.var 2))))) .nil)⟩
def b_is_word : Fn := ⟨2, 2, (.cons (.ret (.and (.isi .str (.var 0)) (.cmp .isin (.var 0) (.var 1)))) .nil)⟩
def b_is_way : Fn := ⟨1, 1, (.cons (.ife (.or (.not (.val (.isi .tuple (.var 0)))) (.or (.val (.cmp .ne (.blt .len (.cons (.var 0) .nil)) (.cst (.int 6)))) (.not (.val (.cal 0 (.cons (.sub (.var 0) (.cst (.int 0))) (.cons (.glo 1) .nil))))))) (.cons (.ret (.cst (.bl false))) .nil) .nil) (.cons (.ife (.or (.not (.val (.cal 1 (.cons (.sub (.var 0) (.cst (.int 1))) (.cons (.cst (.int 2)) (.cons (.cst (.int 4)) .nil)))))) (.or (.not (.val (.cal 1 (.cons (.sub (.var 0) (.cst (.int 2))) (.cons (.cst (.int 2)) (.cons (.cst (.int 3)) .nil)))))) (.not (.val (.cal 1 (.cons (.sub (.var 0) (.cst (.int 3))) (.cons (.sub (.var 0) (.cst (.int 2))) (.cons (.cst (.int 4)) .nil)))))))) (.cons (.ret (.cst (.bl false))) .nil) .nil) (.cons (.ret (.and (.cal 1 (.cons (.sub (.var 0) (.cst (.int 4))) (.cons (.cst (.int 0)) (.cons (.cst (.int 1)) .nil)))) (.cal 0 (.cons (.sub (.var 0) (.cst (.int 5))) (.cons (.glo 0) .nil))))) .nil)))⟩
inductive Look where | fewest | next | now | two
deriving DecidableEq
structure Way where
  look : Look
  win : Nat
  least : Nat
  most : Nat
  own : Nat
  far : Bool
deriving DecidableEq
def lookS : Look → List Nat
  | .fewest => [102, 101, 119, 101, 115, 116]
  | .next => [110, 101, 120, 116]
  | .now => [110, 111, 119]
  | .two => [116, 119, 111]
def tieS : Bool → List Nat
  | true => [102, 97, 114]
  | false => [110, 101, 97, 114]
def Way.d (w : Way) : D := .tup [.str (lookS w.look), .int w.win, .int w.least, .int w.most, .int w.own, .str (tieS w.far)]
structure Way.Ok (w : Way) : Prop where
  w1 : 2 ≤ w.win
  w2 : w.win ≤ 4
  l1 : 2 ≤ w.least
  l2 : w.least ≤ 3
  m1 : w.least ≤ w.most
  m2 : w.most ≤ 4
  o : w.own ≤ 1
def lenAt (s : List Nat) (p b : Nat) : Nat → Nat
  | 0 => 0
  | m + 1 => if p < s.length ∧ s[p]? = s[p - b]? then 1 + lenAt s (p + 1) b m else 0
section
variable {gc : Gc} {T : Tab} {wn k : Nat}
def cap (w : Way) (b : Nat) : Nat := if w.own = 1 then w.most else min w.most b
def cp1 (w : Way) (s : List Nat) (p i : Nat) : Option (Nat × Nat) := if w.least ≤ lenAt s p (1 + i) (cap w (1 + i)) then some (1 + i, lenAt s p (1 + i) (cap w (1 + i))) else none
def cps (w : Way) (s : List Nat) (p : Nat) : List (Nat × Nat) := (List.range (min w.win p)).filterMap (cp1 w s p)
end
end Bk
namespace Bk
variable [MF]
def b__law_rule : Fn := ⟨3, 7, (.cons (.put 3 (.ex (.sub (.var 2) (.cal 19 (.cons (.var 0) (.cons (.var 1) (.cons (.blt .len (.cons (.var 2) .nil)) .nil))))))) (.cons (.put 4 (.ex (.bop .add (.cst (.int 2)) (.cal 19 (.cons (.var 0) (.cons (.var 1) (.cons (.cst (.int 2)) .nil))))))) (.cons (.put 5 (.ex (.blt .min (.cons (.cst (.int 4)) (.cons (.bop .add (.var 4) (.cal 19 (.cons (.var 0) (.cons (.var 1) (.cons (.cst (.int 3)) .nil))))) .nil))))) (.cons (.put 6 (.ex (.sub (.tup (.cons (.cst (.str [110, 101, 97, 114])) (.cons (.cst (.str [102, 97, 114])) .nil))) (.cal 19 (.cons (.var 0) (.cons (.var 1) (.cons (.cst (.int 2)) .nil))))))) (.cons (.ret (.tup (.cons (.var 3) (.cons (.bop .add (.cst (.int 2)) (.cal 19 (.cons (.var 0) (.cons (.var 1) (.cons (.cst (.int 3)) .nil))))) (.cons (.var 4) (.cons (.var 5) (.cons (.ite (.val (.cmp .gt (.cal 19 (.cons (.var 0) (.cons (.var 1) (.cons (.cst (.int 3)) .nil)))) (.cst (.int 0)))) (.cst (.int 1)) (.cst (.int 0))) (.cons (.var 6) .nil)))))))) .nil)))))⟩
section
variable {gc : Gc} {T : Tab} {wn k : Nat}
theorem bind_draw {α β : Type} (n : Nat) (f : Nat → F α) (g : α → F β) : (F.draw n f).bind g = .draw n fun r => (f r).bind g := rfl
theorem all_draw {α : Type} {P : α → Prop} {n : Nat} {f : Nat → F α} : (F.draw n f).All P ↔ ∀ r, r < n → (f r).All P := Iff.rfl
abbrev WORDSd : D := .tup [.str [110, 111, 119], .str [110, 101, 120, 116], .str [116, 119, 111], .str [102, 101, 119, 101, 115, 116]]
def lkOf : Nat → Look
  | 0 => .now
  | 1 => .next
  | 2 => .two
  | _ => .fewest
theorem sub_words {r : Nat} (h : r < 4) : subD WORDSd (.int r) = some (.str (lookS (lkOf r))) := by
  match r, h with
  | 0, _ => rfl
  | 1, _ => rfl
  | 2, _ => rfl
  | 3, _ => rfl
theorem sub_ties {r : Nat} (h : r < 2) : subD (.tup [.str [110, 101, 97, 114], .str [102, 97, 114]]) (.int r) = some (.str (tieS (decide (r = 1)))) := by
  match r, h with
  | 0, _ => rfl
  | 1, _ => rfl
theorem c_rule [HasD T 19] [Has T 23 b__law_rule] : (callF gc T wn (k + 2) 23 [.opq 0, .opq 1, WORDSd]).All fun r => ∃ w : Way, w.Ok ∧ r = .ok w.d := by
  rw [call_has b__law_rule]
  have d4 := call_drw (gc := gc) (T := T) (wn := wn) (k := k) (i := 19) 4 (by decide)
  have d2 := call_drw (gc := gc) (T := T) (wn := wn) (k := k) (i := 19) 2 (by decide)
  have d3 := call_drw (gc := gc) (T := T) (wn := wn) (k := k) (i := 19) 3 (by decide)
  have l4 : lenD [WORDSd] = some (.int 4) := rfl
  simp only [runF, exSs, exS, evE, evEs, evO, evT, evR, evRs, bnd, onE, onN, F.bind, op2, rdV, rdVs, lfD, lf, bopD, cmpD, bltD, truD, dats, dats0, isScal, anyR, asg, asgs, endD, sets, noEx, isOwn, add_ii, sub_ii, lt_ii, gt_ii, le_ii, isD, Option.map_some, Option.map_none, Option.bind_some, Option.bind_none, Option.map, Option.bind, List.getD_cons_zero, List.getD_cons_succ, List.set_cons_zero, List.set_cons_succ, List.length_cons, List.length_nil, List.map_cons, List.map_nil, List.cons_append, List.nil_append, List.replicate, Nat.reduceAdd, Nat.reduceSub, Nat.reduceLT, Nat.reduceLeDiff, Nat.reduceBEq, Nat.beq, Nat.ble, if_true, if_false, ite_true, ite_false, reduceIte, Bool.not_true, Bool.not_false, Bool.or_true, Bool.true_or, Bool.false_or, Bool.or_false, List.getElem?_cons_zero, List.getElem?_cons_succ, b__law_rule, l4, d4, bind_draw]
  refine all_draw.mpr fun r1 h1 => ?_
  have h1 : r1 < 4 := h1
  simp only [runF, exSs, exS, evE, evEs, evO, evT, evR, evRs, bnd, onE, onN, F.bind, op2, rdV, rdVs, lfD, lf, bopD, cmpD, bltD, truD, dats, dats0, isScal, anyR, asg, asgs, endD, sets, noEx, isOwn, add_ii, sub_ii, lt_ii, gt_ii, le_ii, isD, Option.map_some, Option.map_none, Option.bind_some, Option.bind_none, Option.map, Option.bind, List.getD_cons_zero, List.getD_cons_succ, List.set_cons_zero, List.set_cons_succ, List.length_cons, List.length_nil, List.map_cons, List.map_nil, List.cons_append, List.nil_append, List.replicate, Nat.reduceAdd, Nat.reduceSub, Nat.reduceLT, Nat.reduceLeDiff, Nat.reduceBEq, Nat.beq, Nat.ble, if_true, if_false, ite_true, ite_false, reduceIte, Bool.not_true, Bool.not_false, Bool.or_true, Bool.true_or, Bool.false_or, Bool.or_false, List.getElem?_cons_zero, List.getElem?_cons_succ, sub_words h1, d2, bind_draw]
  refine all_draw.mpr fun r2 h2 => ?_
  have h2 : r2 < 2 := h2
  simp only [runF, exSs, exS, evE, evEs, evO, evT, evR, evRs, bnd, onE, onN, F.bind, op2, rdV, rdVs, lfD, lf, bopD, cmpD, bltD, truD, dats, dats0, isScal, anyR, asg, asgs, endD, sets, noEx, isOwn, add_ii, sub_ii, lt_ii, gt_ii, le_ii, isD, Option.map_some, Option.map_none, Option.bind_some, Option.bind_none, Option.map, Option.bind, List.getD_cons_zero, List.getD_cons_succ, List.set_cons_zero, List.set_cons_succ, List.length_cons, List.length_nil, List.map_cons, List.map_nil, List.cons_append, List.nil_append, List.replicate, Nat.reduceAdd, Nat.reduceSub, Nat.reduceLT, Nat.reduceLeDiff, Nat.reduceBEq, Nat.beq, Nat.ble, if_true, if_false, ite_true, ite_false, reduceIte, Bool.not_true, Bool.not_false, Bool.or_true, Bool.true_or, Bool.false_or, Bool.or_false, List.getElem?_cons_zero, List.getElem?_cons_succ, d3, bind_draw]
  refine all_draw.mpr fun r3 h3 => ?_
  have h3 : r3 < 3 := h3
  have m : minD [.int 4, .int (2 + (r2 : Int) + (r3 : Int))] = some (.int (min 4 (2 + r2 + r3) : Nat)) := by
    rw [show (2 : Int) + (r2 : Int) + (r3 : Int) = ((2 + r2 + r3 : Nat) : Int) by omega]
    exact min_two 4 (2 + r2 + r3)
  simp only [runF, exSs, exS, evE, evEs, evO, evT, evR, evRs, bnd, onE, onN, F.bind, op2, rdV, rdVs, lfD, lf, bopD, cmpD, bltD, truD, dats, dats0, isScal, anyR, asg, asgs, endD, sets, noEx, isOwn, add_ii, sub_ii, lt_ii, gt_ii, le_ii, isD, Option.map_some, Option.map_none, Option.bind_some, Option.bind_none, Option.map, Option.bind, List.getD_cons_zero, List.getD_cons_succ, List.set_cons_zero, List.set_cons_succ, List.length_cons, List.length_nil, List.map_cons, List.map_nil, List.cons_append, List.nil_append, List.replicate, Nat.reduceAdd, Nat.reduceSub, Nat.reduceLT, Nat.reduceLeDiff, Nat.reduceBEq, Nat.beq, Nat.ble, if_true, if_false, ite_true, ite_false, reduceIte, Bool.not_true, Bool.not_false, Bool.or_true, Bool.true_or, Bool.false_or, Bool.or_false, List.getElem?_cons_zero, List.getElem?_cons_succ, m, d2, bind_draw]
  refine all_draw.mpr fun r4 h4 => ?_
  have h4 : r4 < 2 := h4
  simp only [runF, exSs, exS, evE, evEs, evO, evT, evR, evRs, bnd, onE, onN, F.bind, op2, rdV, rdVs, lfD, lf, bopD, cmpD, bltD, truD, dats, dats0, isScal, anyR, asg, asgs, endD, sets, noEx, isOwn, add_ii, sub_ii, lt_ii, gt_ii, le_ii, isD, Option.map_some, Option.map_none, Option.bind_some, Option.bind_none, Option.map, Option.bind, List.getD_cons_zero, List.getD_cons_succ, List.set_cons_zero, List.set_cons_succ, List.length_cons, List.length_nil, List.map_cons, List.map_nil, List.cons_append, List.nil_append, List.replicate, Nat.reduceAdd, Nat.reduceSub, Nat.reduceLT, Nat.reduceLeDiff, Nat.reduceBEq, Nat.beq, Nat.ble, if_true, if_false, ite_true, ite_false, reduceIte, Bool.not_true, Bool.not_false, Bool.or_true, Bool.true_or, Bool.false_or, Bool.or_false, List.getElem?_cons_zero, List.getElem?_cons_succ, sub_ties h4, d3, bind_draw]
  refine all_draw.mpr fun r5 h5 => ?_
  have h5 : r5 < 3 := h5
  refine all_draw.mpr fun r6 h6 => ?_
  have h6 : r6 < 3 := h6
  by_cases h7 : 0 < r6
  · have h8 : decide ((0 : Int) < (r6 : Int)) = true := decide_eq_true (by omega)
    simp only [runF, exSs, exS, evE, evEs, evO, evT, evR, evRs, bnd, onE, onN, F.bind, op2, rdV, rdVs, lfD, lf, bopD, cmpD, bltD, truD, dats, dats0, isScal, anyR, asg, asgs, endD, sets, noEx, isOwn, add_ii, sub_ii, lt_ii, gt_ii, le_ii, isD, Option.map_some, Option.map_none, Option.bind_some, Option.bind_none, Option.map, Option.bind, List.getD_cons_zero, List.getD_cons_succ, List.set_cons_zero, List.set_cons_succ, List.length_cons, List.length_nil, List.map_cons, List.map_nil, List.cons_append, List.nil_append, List.replicate, Nat.reduceAdd, Nat.reduceSub, Nat.reduceLT, Nat.reduceLeDiff, Nat.reduceBEq, Nat.beq, Nat.ble, if_true, if_false, ite_true, ite_false, reduceIte, Bool.not_true, Bool.not_false, Bool.or_true, Bool.true_or, Bool.false_or, Bool.or_false, List.getElem?_cons_zero, List.getElem?_cons_succ, h8]
    refine ⟨⟨lkOf r1, 2 + r5, 2 + r2, min 4 (2 + r2 + r3), 1, decide (r4 = 1)⟩, ⟨by show 2 ≤ 2 + r5; omega, by show 2 + r5 ≤ 4; omega, by show 2 ≤ 2 + r2; omega, by show 2 + r2 ≤ 3; omega, by show 2 + r2 ≤ min 4 (2 + r2 + r3); omega, by show min 4 (2 + r2 + r3) ≤ 4; omega, Nat.le_refl 1⟩, ?_⟩
    simp only [Way.d, Int.natCast_add, Int.cast_ofNat_Int]
  · have h8 : decide ((0 : Int) < (r6 : Int)) = false := decide_eq_false (by omega)
    simp only [runF, exSs, exS, evE, evEs, evO, evT, evR, evRs, bnd, onE, onN, F.bind, op2, rdV, rdVs, lfD, lf, bopD, cmpD, bltD, truD, dats, dats0, isScal, anyR, asg, asgs, endD, sets, noEx, isOwn, add_ii, sub_ii, lt_ii, gt_ii, le_ii, isD, Option.map_some, Option.map_none, Option.bind_some, Option.bind_none, Option.map, Option.bind, List.getD_cons_zero, List.getD_cons_succ, List.set_cons_zero, List.set_cons_succ, List.length_cons, List.length_nil, List.map_cons, List.map_nil, List.cons_append, List.nil_append, List.replicate, Nat.reduceAdd, Nat.reduceSub, Nat.reduceLT, Nat.reduceLeDiff, Nat.reduceBEq, Nat.beq, Nat.ble, if_true, if_false, ite_true, ite_false, reduceIte, Bool.not_true, Bool.not_false, Bool.or_true, Bool.true_or, Bool.false_or, Bool.or_false, List.getElem?_cons_zero, List.getElem?_cons_succ, h8]
    refine ⟨⟨lkOf r1, 2 + r5, 2 + r2, min 4 (2 + r2 + r3), 0, decide (r4 = 1)⟩, ⟨by show 2 ≤ 2 + r5; omega, by show 2 + r5 ≤ 4; omega, by show 2 ≤ 2 + r2; omega, by show 2 + r2 ≤ 3; omega, by show 2 + r2 ≤ min 4 (2 + r2 + r3); omega, by show min 4 (2 + r2 + r3) ≤ 4; omega, Nat.zero_le 1⟩, ?_⟩
    simp only [Way.d, Int.natCast_add, Int.cast_ofNat_Int]
theorem a_rule [HasD T 19] [Has T 23 b__law_rule] : (callF gc T wn (k + 2) 23 [.opq 0, .opq 1, WORDSd]).Al fun r => ∃ w : Way, w.Ok ∧ r = .ok w.d := al_iff.mpr c_rule
end
end Bk
namespace Bk
open PySem PySem.Spec PyProof.Rows L2
instance : MF := ⟨fun _ _ _ => none, fun _ _ _ => 0, fun _ _ _ => by decide, fun _ _ _ _ h => nomatch h⟩
def e_all_ways_0 : Ex := (.tup (.cons (.var 1) (.cons (.var 2) (.cons (.var 3) (.cons (.var 4) (.cons (.var 5) (.cons (.var 6) .nil)))))))
def c_all_ways_1 : Ex := (.cmp1 e_all_ways_0 (.nm 6) (.seq (.glo 0)) [6])
def s_all_ways_2 : Ss := (.cons (.ext 0 c_all_ways_1) .nil)
def s_all_ways_3 : Ss := (.cons (.for_ (.nm 5) (.seq (.tup (.cons (.cst (.int 0)) (.cons (.cst (.int 1)) .nil)))) s_all_ways_2) .nil)
def s_all_ways_4 : Ss := (.cons (.for_ (.tp [(.nm 3), (.nm 4)]) (.seq (.tup (.cons (.tup (.cons (.cst (.int 2)) (.cons (.cst (.int 2)) .nil))) (.cons (.tup (.cons (.cst (.int 2)) (.cons (.cst (.int 3)) .nil))) (.cons (.tup (.cons (.cst (.int 2)) (.cons (.cst (.int 4)) .nil))) (.cons (.tup (.cons (.cst (.int 3)) (.cons (.cst (.int 3)) .nil))) (.cons (.tup (.cons (.cst (.int 3)) (.cons (.cst (.int 4)) .nil))) .nil))))))) s_all_ways_3) .nil)
def s_all_ways_5 : Ss := (.cons (.for_ (.nm 2) (.seq (.tup (.cons (.cst (.int 2)) (.cons (.cst (.int 3)) (.cons (.cst (.int 4)) .nil))))) s_all_ways_4) .nil)
def b_all_ways : Fn := ⟨0, 7, (.cons (.put 0 (.new .nil)) (.cons (.for_ (.nm 1) (.seq (.glo 1)) s_all_ways_5) (.cons (.ret (.blt .tuple (.cons (.var 0) .nil))) .nil)))⟩
def e__law_count_0 : Ex := (.var 3)
def t__law_count_1 : Tx := (.val (.cmp .eq (.sub (.var 3) (.var 1)) (.var 2)))
def c__law_count_2 : Ex := (.cmpc e__law_count_0 (.nm 3) (.seq (.var 0)) t__law_count_1 [3])
def b__law_count : Fn := ⟨3, 4, (.cons (.ret (.blt .len (.cons c__law_count_2 .nil))) .nil)⟩
def s_law_0 : Ss := (.cons (.ife (.val (.cmp .nin (.cal 23 (.cons (.var 0) (.cons (.var 2) (.cons (.tup (.cons (.cst (.str [110, 111, 119])) (.cons (.cst (.str [110, 101, 120, 116])) (.cons (.cst (.str [116, 119, 111])) (.cons (.cst (.str [102, 101, 119, 101, 115, 116])) .nil))))) .nil)))) (.var 3))) (.cons (.ret (.cst (.bl false))) .nil) .nil) .nil)
def e_law_1 : Ex := (.cal 22 (.cons (.var 3) (.cons (.cst (.int 3)) (.cons (.var 5) .nil))))
def c_law_2 : Ex := (.cmp1 e_law_1 (.nm 5) (.seq (.tup (.cons (.cst (.int 2)) (.cons (.cst (.int 3)) (.cons (.cst (.int 4)) .nil))))) [5])
def e_law_3 : Ex := (.cal 22 (.cons (.var 3) (.cons (.cst (.int 2)) (.cons (.var 5) .nil))))
def c_law_4 : Ex := (.cmp1 e_law_3 (.nm 5) (.seq (.tup (.cons (.cst (.int 2)) (.cons (.cst (.int 3)) .nil)))) [5])
def e_law_5 : Ex := (.cal 22 (.cons (.var 3) (.cons (.cst (.int 1)) (.cons (.var 5) .nil))))
def c_law_6 : Ex := (.cmp1 e_law_5 (.nm 5) (.seq (.tup (.cons (.cst (.int 2)) (.cons (.cst (.int 3)) (.cons (.cst (.int 4)) .nil))))) [5])
def e_law_7 : Ex := (.cal 22 (.cons (.var 3) (.cons (.cst (.int 0)) (.cons (.var 4) .nil))))
def c_law_8 : Ex := (.cmp1 e_law_7 (.nm 4) (.seq (.tup (.cons (.cst (.str [110, 111, 119])) (.cons (.cst (.str [110, 101, 120, 116])) (.cons (.cst (.str [116, 119, 111])) (.cons (.cst (.str [102, 101, 119, 101, 115, 116])) .nil)))))) [4])
def e_law_9 : Ex := (.cal 2 (.cons (.var 6) .nil))
def c_law_10 : Ex := (.cmp1 e_law_9 (.nm 6) (.seq (.var 3)) [6])
def b_law : Fn := ⟨1, 7, (.cons (.par [2, 3] [(.ex (.cal 20 .nil)), (.ex (.cal 114 .nil))]) (.cons (.ife (.or (.val (.cmp .ne (.blt .len (.cons (.var 3) .nil)) (.cst (.int 240)))) (.or (.val (.cmp .ne (.blt .list (.cons (.var 3) .nil)) (.sst (.var 3)))) (.not (.val (.blt .all (.cons c_law_10 .nil)))))) (.cons (.ret (.cst (.bl false))) .nil) .nil) (.cons (.ife (.val (.cmp .ne c_law_8 (.lst (.cons (.cst (.int 60)) (.cons (.cst (.int 60)) (.cons (.cst (.int 60)) (.cons (.cst (.int 60)) .nil))))))) (.cons (.ret (.cst (.bl false))) .nil) .nil) (.cons (.ife (.val (.cmp .ne c_law_6 (.lst (.cons (.cst (.int 80)) (.cons (.cst (.int 80)) (.cons (.cst (.int 80)) .nil)))))) (.cons (.ret (.cst (.bl false))) .nil) .nil) (.cons (.ife (.val (.cmp .ne c_law_4 (.lst (.cons (.cst (.int 144)) (.cons (.cst (.int 96)) .nil))))) (.cons (.ret (.cst (.bl false))) .nil) .nil) (.cons (.ife (.val (.cmp .ne c_law_2 (.lst (.cons (.cst (.int 48)) (.cons (.cst (.int 96)) (.cons (.cst (.int 96)) .nil)))))) (.cons (.ret (.cst (.bl false))) .nil) .nil) (.cons (.for_ (.nm 1) (.rg1 (.cst (.int 10))) s_law_0) (.cons (.ret (.and (.cmp .eq (.cal 22 (.cons (.var 3) (.cons (.cst (.int 4)) (.cons (.cst (.int 1)) .nil)))) (.cst (.int 120))) (.cmp .eq (.cal 22 (.cons (.var 3) (.cons (.cst (.int 5)) (.cons (.cst (.str [102, 97, 114])) .nil)))) (.cst (.int 120))))) .nil))))))))⟩
def gc : Gc
  | 1 => (.tup [(.str [102, 101, 119, 101, 115, 116]), (.str [110, 101, 120, 116]), (.str [110, 111, 119]), (.str [116, 119, 111])])
  | 0 => (.tup [(.str [102, 97, 114]), (.str [110, 101, 97, 114])])
  | _ => .non
def tab : Tab := [(1, .fn b_is_between), (0, .fn b_is_word), (2, .fn b_is_way), (114, .fn b_all_ways), (19, .drw), (20, .beg), (23, .fn b__law_rule), (22, .fn b__law_count), (106, .fn b_law)]
def gFn : Nat → Str
  | 1 => "is_between"
  | 0 => "is_word"
  | 2 => "is_way"
  | 114 => "all_ways"
  | 19 => "_law_draw"
  | 20 => "_law_begun"
  | 23 => "_law_rule"
  | 22 => "_law_count"
  | 106 => "law"
  | _ => ""
def gGn : Nat → Str
  | 1 => "LOOKS"
  | 0 => "TIES"
  | _ => ""
def gEn : Nat → Str
  | _ => ""
def gPs : Nat → List Str
  | 1 => ["value", "low", "high"]
  | 0 => ["value", "words"]
  | 2 => ["value"]
  | 114 => []
  | 19 => ["script", "town", "many"]
  | 20 => []
  | 23 => ["script", "town", "words"]
  | 22 => ["found", "at", "thing"]
  | 106 => ["script"]
  | _ => []
def gIc : Nat → Nat
  | _ => 0
def G : Nm := ⟨gFn, gGn, gEn, gPs, [1, 0, 2, 114, 19, 20, 23, 22, 106], [1, 0], [], [], false, false, [], [], gIc, [], [], []⟩
section
variable {w : World} {h : Heap} {K : PySem.W.Frag} {mg : Str → Option Value}
abbrev LP : Program := PySem.Challenge.rw_backcopies_k02_all_ways.prog
abbrev pwc (w : World) : PWc := ⟨LP, w⟩
theorem hex_ok (c : He.SaysX hFa hFn [] hTd hEx w h K) : (true = true ∧ tbU K = true ∧ tdf K = hTf) := by
  have hx : hEx K = true := c.more
  unfold hEx at hx
  simp only [Bool.and_eq_true, decide_eq_true_eq] at hx
  obtain ⟨⟨⟨⟨r1, r2⟩, r3⟩, x0⟩, x1⟩ := hx
  exact ⟨(by first | exact r1 | rfl), r2, r3⟩
theorem tdf_in (c : He.SaysX hFa hFn [] hTd hEx w h K) (x : Str) (hx : x ∈ hTf) : x ∈ tdf K := by
  rw [(hex_ok c).2.2]
  exact hx
theorem f_is_between (X : K.In h) (Gh : h.Ns mainGlobals mg) (c : He.SaysX hFa hFn [] hTd hEx w h K) : @FOk _ (pwc w) LP w K mg G gc tab 1000 1 := by
  letI := pwc w
  obtain ⟨fd, F⟩ := c.t.d.def_ 0 (d := dd "is_between" 3) rfl
  exact ⟨_, fd, He.glo_ok X Gh (c.t.d.fact 0 (f := .glo "is_between") rfl), F.kp, FunD.bindsN F (fun _ _ _ _ _ _ us hl => match us, hl with | [_, _, _], _ => rfl), fun m => absurd m (by decide), fun base k W => step_fn (g := b_is_between) (N := ["value", "low", "high"]) (lb := false) F rfl (by decide +kernel) (fun z => nomatch z) ⟨rfl, rfl⟩ base k W⟩
theorem f_is_word (X : K.In h) (Gh : h.Ns mainGlobals mg) (c : He.SaysX hFa hFn [] hTd hEx w h K) : @FOk _ (pwc w) LP w K mg G gc tab 1000 0 := by
  letI := pwc w
  obtain ⟨fd, F⟩ := c.t.d.def_ 1 (d := dd "is_word" 4) rfl
  exact ⟨_, fd, He.glo_ok X Gh (c.t.d.fact 1 (f := .glo "is_word") rfl), F.kp, FunD.bindsN F (fun _ _ _ _ _ _ us hl => match us, hl with | [_, _], _ => rfl), fun m => absurd m (by decide), fun base k W => step_fn (g := b_is_word) (N := ["value", "words"]) (lb := false) F rfl (by decide +kernel) (fun z => nomatch z) ⟨rfl, rfl⟩ base k W⟩
theorem f_is_way (X : K.In h) (Gh : h.Ns mainGlobals mg) (c : He.SaysX hFa hFn [] hTd hEx w h K) : @FOk _ (pwc w) LP w K mg G gc tab 1000 2 := by
  letI := pwc w
  obtain ⟨fd, F⟩ := c.t.d.def_ 2 (d := dd "is_way" 5) rfl
  exact ⟨_, fd, He.glo_ok X Gh (c.t.d.fact 2 (f := .glo "is_way") rfl), F.kp, FunD.bindsN F (fun _ _ _ _ _ _ us hl => match us, hl with | [_], _ => rfl), fun m => absurd m (by decide), fun base k W => step_fn (g := b_is_way) (N := ["value"]) (lb := false) F rfl (by decide +kernel) (fun z => nomatch z) ⟨rfl, rfl⟩ base k W⟩
theorem f_all_ways (X : K.In h) (Gh : h.Ns mainGlobals mg) (c : He.SaysX hFa hFn [] hTd hEx w h K) : @FOk _ (pwc w) LP w K mg G gc tab 1000 114 := by
  letI := pwc w
  obtain ⟨fd, F⟩ := c.t.d.def_ 3 (d := dd "all_ways" 6) rfl
  exact ⟨_, fd, He.glo_ok X Gh (c.t.d.fact 3 (f := .glo "all_ways") rfl), F.kp, FunD.bindsN F (fun _ _ _ _ _ _ us hl => match us, hl with | [], _ => rfl), fun m => absurd m (by decide), fun base k W => step_fn (g := b_all_ways) (N := ["found", "look", "window", "least", "most", "own", "tie"]) (lb := false) F rfl (by decide +kernel) (fun z => nomatch z) ⟨rfl, rfl⟩ base k W⟩
theorem f__law_draw (X : K.In h) (Gh : h.Ns mainGlobals mg) (c : He.SaysX hFa hFn [] hTd hEx w h K) : @FOk _ (pwc w) LP w K mg G gc tab 1000 19 := by
  letI := pwc w
  obtain ⟨fd, F⟩ := c.t.d.def_ 4 (d := dd "_law_draw" 8) rfl
  exact ⟨_, fd, He.glo_ok X Gh (c.t.d.fact 4 (f := .glo "_law_draw") rfl), F.kp, FunD.bindsN F (fun _ _ _ _ _ _ us hl => match us, hl with | [_, _, _], _ => rfl), fun m => absurd m (by decide), fun base k W => drw_ok F (scB_ok (by decide +kernel)) rfl rfl rfl rfl rfl rfl (He.free_ok X Gh (c.t.d.fact 9 (f := .free "len") rfl)) rfl rfl⟩
theorem f__law_begun (X : K.In h) (Gh : h.Ns mainGlobals mg) (c : He.SaysX hFa hFn [] hTd hEx w h K) : @FOk _ (pwc w) LP w K mg G gc tab 1000 20 := by
  letI := pwc w
  obtain ⟨fd, F⟩ := c.t.d.def_ 5 (d := dd "_law_begun" 9) rfl
  exact ⟨_, fd, He.glo_ok X Gh (c.t.d.fact 5 (f := .glo "_law_begun") rfl), F.kp, FunD.bindsN F (fun _ _ _ _ _ _ us hl => match us, hl with | [], _ => rfl), fun m => absurd m (by decide), fun base k W => beg_ok F (scB_ok (by decide +kernel)) rfl rfl rfl⟩
theorem f__law_rule (X : K.In h) (Gh : h.Ns mainGlobals mg) (c : He.SaysX hFa hFn [] hTd hEx w h K) : @FOk _ (pwc w) LP w K mg G gc tab 1000 23 := by
  letI := pwc w
  obtain ⟨fd, F⟩ := c.t.d.def_ 6 (d := dd "_law_rule" 10) rfl
  exact ⟨_, fd, He.glo_ok X Gh (c.t.d.fact 6 (f := .glo "_law_rule") rfl), F.kp, FunD.bindsN F (fun _ _ _ _ _ _ us hl => match us, hl with | [_, _, _], _ => rfl), fun m => absurd m (by decide), fun base k W => step_fn (g := b__law_rule) (N := ["script", "town", "words", "look", "least", "most", "tie"]) (lb := false) F rfl (by decide +kernel) (fun z => nomatch z) ⟨rfl, rfl⟩ base k W⟩
theorem f__law_count (X : K.In h) (Gh : h.Ns mainGlobals mg) (c : He.SaysX hFa hFn [] hTd hEx w h K) : @FOk _ (pwc w) LP w K mg G gc tab 1000 22 := by
  letI := pwc w
  obtain ⟨fd, F⟩ := c.t.d.def_ 7 (d := dd "_law_count" 11) rfl
  exact ⟨_, fd, He.glo_ok X Gh (c.t.d.fact 7 (f := .glo "_law_count") rfl), F.kp, FunD.bindsN F (fun _ _ _ _ _ _ us hl => match us, hl with | [_, _, _], _ => rfl), fun m => absurd m (by decide), fun base k W => step_fn (g := b__law_count) (N := ["found", "at", "thing", "rule"]) (lb := false) F rfl (by decide +kernel) (fun z => nomatch z) ⟨rfl, rfl⟩ base k W⟩
theorem f_law (X : K.In h) (Gh : h.Ns mainGlobals mg) (c : He.SaysX hFa hFn [] hTd hEx w h K) : @FOk _ (pwc w) LP w K mg G gc tab 1000 106 := by
  letI := pwc w
  obtain ⟨fd, F⟩ := c.t.d.def_ 8 (d := dd "law" 12) rfl
  exact ⟨_, fd, He.glo_ok X Gh (c.t.d.fact 8 (f := .glo "law") rfl), F.kp, FunD.bindsN F (fun _ _ _ _ _ _ us hl => match us, hl with | [_], _ => rfl), fun m => absurd m (by decide), fun base k W => step_fn (g := b_law) (N := ["script", "k", "town", "found", "look", "size", "rule"]) (lb := true) F rfl (by decide +kernel) (fun _ => ⟨rfl, rfl, tdf_in c "law" (by decide)⟩) ⟨rfl, rfl⟩ base k W⟩
theorem w_ok (X : K.In h) (Gh : h.Ns mainGlobals mg) (c : He.SaysX hFa hFn [] hTd hEx w h K) (base : Heap) (ht : ∀ p ∈ (tdf K).map fun x => He.cT K (x, none), LamX.TabB base mg p.1 p.2) : ∀ k, @Wok _ (pwc w) LP w K mg base k G gc (callF gc tab 1000 k) := by
  letI := pwc w
  have hx : hEx K = true := c.more
  unfold hEx at hx
  refine wok ?_ ?_ ?_ ?_ base ?_ (fun x hx => ht _ (List.mem_map.mpr ⟨x, hx, rfl⟩)) (tbU_ok (hex_ok c).2.1) ?_ ?_ ?_ ?_ ?_
  · intro x m
    simp only [bltN, List.mem_cons, List.not_mem_nil, or_false] at m
    rcases m with rfl | rfl | rfl | rfl | rfl | rfl | rfl | rfl | rfl | rfl | rfl | rfl | rfl | rfl | rfl | rfl | rfl | rfl | rfl
    · exact He.free_ok X Gh (c.t.d.fact 9 (f := .free "len") rfl)
    · exact He.free_ok X Gh (c.t.d.fact 10 (f := .free "min") rfl)
    · exact He.free_ok X Gh (c.t.d.fact 11 (f := .free "max") rfl)
    · exact He.free_ok X Gh (c.t.d.fact 12 (f := .free "sum") rfl)
    · exact He.free_ok X Gh (c.t.d.fact 13 (f := .free "all") rfl)
    · exact He.free_ok X Gh (c.t.d.fact 14 (f := .free "any") rfl)
    · exact He.free_ok X Gh (c.t.d.fact 15 (f := .free "tuple") rfl)
    · exact He.free_ok X Gh (c.t.d.fact 16 (f := .free "list") rfl)
    · exact He.free_ok X Gh (c.t.d.fact 17 (f := .free "abs") rfl)
    · exact He.free_ok X Gh (c.t.d.fact 18 (f := .free "str") rfl)
    · exact He.free_ok X Gh (c.t.d.fact 19 (f := .free "int") rfl)
    · exact He.free_ok X Gh (c.t.d.fact 20 (f := .free "bool") rfl)
    · exact He.free_ok X Gh (c.t.d.fact 21 (f := .free "isinstance") rfl)
    · exact He.free_ok X Gh (c.t.d.fact 22 (f := .free "range") rfl)
    · exact He.free_ok X Gh (c.t.d.fact 23 (f := .free "enumerate") rfl)
    · exact He.free_ok X Gh (c.t.d.fact 24 (f := .free "zip") rfl)
    · exact He.free_ok X Gh (c.t.d.fact 25 (f := .free "sorted") rfl)
    · exact He.free_ok X Gh (c.t.d.fact 26 (f := .free "set") rfl)
    · exact He.free_ok X Gh (c.t.d.fact 27 (f := .free "dict") rfl)
  · intro i m
    simp only [G, List.mem_cons, List.not_mem_nil, or_false] at m
    rcases m with rfl | rfl | rfl | rfl | rfl | rfl | rfl | rfl | rfl
    · exact f_is_between X Gh c
    · exact f_is_word X Gh c
    · exact f_is_way X Gh c
    · exact f_all_ways X Gh c
    · exact f__law_draw X Gh c
    · exact f__law_begun X Gh c
    · exact f__law_rule X Gh c
    · exact f__law_count X Gh c
    · exact f_law X Gh c
  · simp only [Bool.and_eq_true, decide_eq_true_eq] at hx
    obtain ⟨⟨⟨⟨r1, r2⟩, r3⟩, x0⟩, x1⟩ := hx
    intro i m
    simp only [G, List.mem_cons, List.not_mem_nil, or_false] at m
    rcases m with rfl | rfl
    · exact gok (x := "LOOKS") (ss := [[102, 101, 119, 101, 115, 116], [110, 101, 120, 116], [110, 111, 119], [116, 119, 111]]) rfl (He.glo_ok X Gh (c.t.d.fact 28 (f := .glo "LOOKS") rfl)) x0 rfl (by kernel_rfl)
    · exact gok (x := "TIES") (ss := [[102, 97, 114], [110, 101, 97, 114]]) rfl (He.glo_ok X Gh (c.t.d.fact 29 (f := .glo "TIES") rfl)) x1 rfl (by kernel_rfl)
  · intro i m
    cases m
  · intro z
    cases z
  · intro q m
    cases m
  · intro q m
    cases m
  · intro q m
    cases m
  · intro q m
    cases m
  · intro q m
    cases m
theorem facts (X : K.In h) (Gh : h.Ns mainGlobals mg) (c : He.SaysX hFa hFn [] hTd hEx w h K) {f : Addr} (hf : mg ("law" : Str) = some (.ref f)) :
    ∃ fd : FuncData, (∀ (s : Shared) (v : Value), BindsTo s fd ⟨[v], []⟩ [("script", v)]) ∧ ∀ base : Heap, (∀ p ∈ (tdf K).map fun x => He.cT K (x, none), LamX.TabB base mg p.1 p.2) → FnOk LP w K mg base (CXs LP) 48 f fd ["script"] (@spC _ (pwc w) K mg G (callF gc tab 1000 12) 106) := by
  letI := pwc w
  obtain ⟨fd, F⟩ := c.t.d.def_ 8 (d := dd "law" 12) rfl
  have e := hf.symm.trans (He.glo_ok X Gh (c.t.d.fact 8 (f := .glo "law") rfl))
  cases e
  have b := FunD.bindsA (ps := ["script"]) F fun _ _ _ _ _ _ us hl => match us, hl with | [_], _ => rfl
  exact ⟨fd, fun s v => b s [v] rfl, fun base ht => FnOk.some (step_fn (G := G) (T := tab) (i := 106) (g := b_law) (N := ["script", "k", "town", "found", "look", "size", "rule"]) (lb := true) F rfl (by decide +kernel) (fun _ => ⟨rfl, rfl, tdf_in c "law" (by decide)⟩) ⟨rfl, rfl⟩ base 11 (w_ok X Gh c base ht 11))⟩
theorem tabs0 (X : K.In h) (c : He.SaysX hFa hFn [] hTd hEx w h K) (p : Addr × Addr) (hp : p ∈ (tdf K).map fun x => He.cT K (x, none)) : h.get? p.2 = some { cls := .none, data := .fields #[] } ∧ K.lookup p.2 = none ∧ PySem.W.CodeHd h p.1 p.2 := by
  obtain ⟨x, hx, rfl⟩ := List.mem_map.mp hp
  rw [(hex_ok c).2.2] at hx
  have hm : ((x, none) : He.Defn) ∈ hTd := List.mem_map.mpr ⟨x, hx, rfl⟩
  exact ⟨c.empty _ hm, c.out _ hm, PySem.W.codeHd_of_K X (c.hd _ hm)⟩
end
instance : Has tab 1 b_is_between := ⟨rfl⟩
instance : Has tab 0 b_is_word := ⟨rfl⟩
instance : Has tab 2 b_is_way := ⟨rfl⟩
instance : Has tab 114 b_all_ways := ⟨rfl⟩
instance : HasD tab 19 := ⟨rfl⟩
instance : HasB tab 20 := ⟨rfl⟩
instance : Has tab 23 b__law_rule := ⟨rfl⟩
instance : Has tab 22 b__law_count := ⟨rfl⟩
instance : Has tab 106 b_law := ⟨rfl⟩
def looksL : List D := [.str [102, 101, 119, 101, 115, 116], .str [110, 101, 120, 116], .str [110, 111, 119], .str [116, 119, 111]]
def lmL : List (Int × Int) := [(2, 2), (2, 3), (2, 4), (3, 3), (3, 4)]
def waysL : List D := looksL.flatMap fun l => ([2, 3, 4] : List Int).flatMap fun wi => lmL.flatMap fun lm => ([0, 1] : List Int).flatMap fun o => [.str [102, 97, 114], .str [110, 101, 97, 114]].map fun t => .tup [l, .int wi, .int lm.1, .int lm.2, .int o, t]
theorem in_ways {w : Way} (hw : w.Ok) : w.d ∈ waysL := by
  obtain ⟨h1, h2, h3, h4, h5, h6, h7⟩ := hw
  obtain ⟨lk, wi, le, mo, ow, fa⟩ := w
  dsimp only at h1 h2 h3 h4 h5 h6 h7
  unfold waysL
  refine List.mem_flatMap.mpr ⟨.str (lookS lk), by cases lk <;> simp [looksL, lookS], ?_⟩
  refine List.mem_flatMap.mpr ⟨(wi : Int), by
    have : wi = 2 ∨ wi = 3 ∨ wi = 4 := by omega
    rcases this with rfl | rfl | rfl <;> simp, ?_⟩
  refine List.mem_flatMap.mpr ⟨((le : Int), (mo : Int)), by
    have : (le = 2 ∧ mo = 2) ∨ (le = 2 ∧ mo = 3) ∨ (le = 2 ∧ mo = 4) ∨ (le = 3 ∧ mo = 3) ∨ (le = 3 ∧ mo = 4) := by omega
    rcases this with ⟨rfl, rfl⟩ | ⟨rfl, rfl⟩ | ⟨rfl, rfl⟩ | ⟨rfl, rfl⟩ | ⟨rfl, rfl⟩ <;> simp [lmL], ?_⟩
  refine List.mem_flatMap.mpr ⟨(ow : Int), by
    have : ow = 0 ∨ ow = 1 := by omega
    rcases this with rfl | rfl <;> simp, ?_⟩
  refine List.mem_map.mpr ⟨.str (tieS fa), by cases fa <;> simp [tieS], rfl⟩
def isF (m : M Bool) : Bool := match m with
  | .ret (.ok false) => true
  | _ => false
theorem isF_ok {m : M Bool} (h : isF m = true) : m = ok false := by
  unfold isF at h
  split at h
  · rfl
  · cases h
def isVT (m : M Vv) : Bool := match m with
  | .ret (.ok (.d (.bl true))) => true
  | _ => false
theorem isVT_ok {m : M Vv} (h : isVT m = true) : m = ok (.d (.bl true)) := by
  unfold isVT at h
  split at h
  · rfl
  · cases h
def isW (m : M D) (d : D) : Bool := match m with
  | .ret (.ok x) => D.same x d
  | _ => false
theorem isW_ok {m : M D} {d : D} (h : isW m d = true) : m = ok d := by
  unfold isW at h
  split at h
  · rw [D.same_eq h]
  · cases h
theorem all_ways : callF gc tab 1000 11 114 [] = ok (.tup waysL) := isW_ok (by decide +kernel)
theorem c_1 : evT gc (callF gc tab 1000 11) (.or (.val (.cmp .ne (.blt .len (.cons (.var 3) .nil)) (.cst (.int 240)))) (.or (.val (.cmp .ne (.blt .list (.cons (.var 3) .nil)) (.sst (.var 3)))) (.not (.val (.blt .all (.cons c_law_10 .nil)))))) [vd (.opq 0), none, vd (.opq 1), vd (.tup waysL), none, none, none] [] = ok false := isF_ok (by decide +kernel)
theorem c_2 : evT gc (callF gc tab 1000 11) (.val (.cmp .ne c_law_8 (.lst (.cons (.cst (.int 60)) (.cons (.cst (.int 60)) (.cons (.cst (.int 60)) (.cons (.cst (.int 60)) .nil))))))) [vd (.opq 0), none, vd (.opq 1), vd (.tup waysL), none, none, none] [] = ok false := isF_ok (by decide +kernel)
theorem c_3 : evT gc (callF gc tab 1000 11) (.val (.cmp .ne c_law_6 (.lst (.cons (.cst (.int 80)) (.cons (.cst (.int 80)) (.cons (.cst (.int 80)) .nil)))))) [vd (.opq 0), none, vd (.opq 1), vd (.tup waysL), none, none, none] [] = ok false := isF_ok (by decide +kernel)
theorem c_4 : evT gc (callF gc tab 1000 11) (.val (.cmp .ne c_law_4 (.lst (.cons (.cst (.int 144)) (.cons (.cst (.int 96)) .nil))))) [vd (.opq 0), none, vd (.opq 1), vd (.tup waysL), none, none, none] [] = ok false := isF_ok (by decide +kernel)
theorem c_5 : evT gc (callF gc tab 1000 11) (.val (.cmp .ne c_law_2 (.lst (.cons (.cst (.int 48)) (.cons (.cst (.int 96)) (.cons (.cst (.int 96)) .nil)))))) [vd (.opq 0), none, vd (.opq 1), vd (.tup waysL), none, none, none] [] = ok false := isF_ok (by decide +kernel)
theorem c_6 : evE gc (callF gc tab 1000 11) (.and (.cmp .eq (.cal 22 (.cons (.var 3) (.cons (.cst (.int 4)) (.cons (.cst (.int 1)) .nil)))) (.cst (.int 120))) (.cmp .eq (.cal 22 (.cons (.var 3) (.cons (.cst (.int 5)) (.cons (.cst (.str [102, 97, 114])) .nil)))) (.cst (.int 120)))) [vd (.opq 0), vi ((0 + 9 : Nat) : Int), vd (.opq 1), vd (.tup waysL), none, none, none] [] = ok (.d (.bl true)) := isVT_ok (by decide +kernel)
theorem for_one {tg : Tg} {body : En → Hq → F Fl} {d : D} {ds : List D} {e e1 e2 : En} {h h2 : Hq} {P : Fl → Prop} (ha : asg tg d e = some e1) (hb : (body e1 h).Al fun r => r = .nx e2 h2) (k : (forL tg body ds e2 h2).Al P) : (forL tg body (d :: ds) e h).Al P := by
  rw [forL, ha]
  refine Al_bind.mpr (al_imp hb ?_)
  rintro _ rfl
  exact k
theorem shp_ways : D.shp 60 (.tup waysL) = true := by decide +kernel
theorem law_al : (callF gc tab 1000 12 106 [.opq 0]).Al fun r => r = .ok (.bl true) := by
  refine call_all b_law b_law.eq_1 (by simp only [List.map_cons, List.map_nil, Nat.reduceSub, List.replicate, List.cons_append, List.nil_append] <;> exact rfl) rfl ?_
  have hb := call_beg (gc := gc) (T := tab) (wn := 1000) (k := 10) (i := 20)
  have aw := all_ways
  have c1 := c_1
  have c2 := c_2
  have c3 := c_3
  have c4 := c_4
  have c5 := c_5
  have c6 := c_6
  have nn : ∀ w : Way, w.Ok → isinD w.d (.tup waysL) = some true := fun w hw => by
    have sw : D.shp 60 w.d = true := by
      have : asc (lookS w.look) = true := by cases w.look <;> rfl
      have h2 : asc (tieS w.far) = true := by cases w.far <;> rfl
      show (asc (lookS w.look) && (true && (true && (true && (true && (asc (tieS w.far) && true)))))) = true
      rw [this, h2]
      rfl
    have mem : inD w.d waysL = true := by
      unfold inD
      rw [List.any_eq_true]
      exact ⟨w.d, in_ways hw, beq_self _ 60 sw⟩
    show (if ((false : Bool) && waysL.all D.isFlat) = true then some (inD w.d waysL) else if (D.shp 60 w.d && D.shp 60 (.tup waysL)) = true then some (inD w.d waysL) else none) = _
    rw [Bool.false_and, if_neg (by decide), sw, shp_ways, mem]
    rfl
  generalize waysL = W at *
  refine st_nx (e1 := [vd (.opq 0), none, vd (.opq 1), vd (.tup W), none, none, none]) (h1 := []) ?_ ?_
  · simp only [runF, exSs, exS, evE, evEs, evO, evT, evR, evRs, bnd, onE, onN, F.bind, op2, rdV, rdVs, lfD, lf, bopD, cmpD, bltD, truD, dats, dats0, isScal, anyR, asg, asgs, endD, sets, noEx, isOwn, add_ii, sub_ii, lt_ii, gt_ii, le_ii, isD, Option.map_some, Option.map_none, Option.bind_some, Option.bind_none, Option.map, Option.bind, List.getD_cons_zero, List.getD_cons_succ, List.set_cons_zero, List.set_cons_succ, List.length_cons, List.length_nil, List.map_cons, List.map_nil, List.cons_append, List.nil_append, List.replicate, Nat.reduceAdd, Nat.reduceSub, Nat.reduceLT, Nat.reduceLeDiff, Nat.reduceBEq, Nat.beq, Nat.ble, if_true, if_false, ite_true, ite_false, reduceIte, Bool.not_true, Bool.not_false, Bool.or_true, Bool.true_or, Bool.false_or, Bool.or_false, List.getElem?_cons_zero, List.getElem?_cons_succ, hb, aw]
  refine st_nx (e1 := [vd (.opq 0), none, vd (.opq 1), vd (.tup W), none, none, none]) (h1 := []) ?_ ?_
  · refine (sq_if0 ?_).trans rfl
    exact c1
  refine st_nx (e1 := [vd (.opq 0), none, vd (.opq 1), vd (.tup W), none, none, none]) (h1 := []) ?_ ?_
  · refine (sq_if0 ?_).trans rfl
    exact c2
  refine st_nx (e1 := [vd (.opq 0), none, vd (.opq 1), vd (.tup W), none, none, none]) (h1 := []) ?_ ?_
  · refine (sq_if0 ?_).trans rfl
    exact c3
  refine st_nx (e1 := [vd (.opq 0), none, vd (.opq 1), vd (.tup W), none, none, none]) (h1 := []) ?_ ?_
  · refine (sq_if0 ?_).trans rfl
    exact c4
  refine st_nx (e1 := [vd (.opq 0), none, vd (.opq 1), vd (.tup W), none, none, none]) (h1 := []) ?_ ?_
  · refine (sq_if0 ?_).trans rfl
    exact c5
  clear c1 c2 c3 c4 c5 aw
  have r1 := a_rule (gc := gc) (T := tab) (wn := 1000) (k := 9)
  refine st_all (Q := fun r => r = .nx [vd (.opq 0), vi ((0 + 9 : Nat) : Int), vd (.opq 1), vd (.tup W), none, none, none] []) ?_ ?_
  · have hi : evI gc (callF gc tab 1000 11) (.rg1 (.cst (.int 10))) [vd (.opq 0), none, vd (.opq 1), vd (.tup W), none, none, none] [] = ok ((List.range (10 - 0)).map fun i : Nat => D.int ((0 + i : Nat) : Int)) := by
      have q : evE gc (callF gc tab 1000 11) (.cst (.int 10)) [vd (.opq 0), none, vd (.opq 1), vd (.tup W), none, none, none] [] = ok (.d (.int 10)) := by simp only [runF, exSs, exS, evE, evEs, evO, evT, evR, evRs, bnd, onE, onN, F.bind, op2, rdV, rdVs, lfD, lf, bopD, cmpD, bltD, truD, dats, dats0, isScal, anyR, asg, asgs, endD, sets, noEx, isOwn, add_ii, sub_ii, lt_ii, gt_ii, le_ii, isD, Option.map_some, Option.map_none, Option.bind_some, Option.bind_none, Option.map, Option.bind, List.getD_cons_zero, List.getD_cons_succ, List.set_cons_zero, List.set_cons_succ, List.length_cons, List.length_nil, List.map_cons, List.map_nil, List.cons_append, List.nil_append, List.replicate, Nat.reduceAdd, Nat.reduceSub, Nat.reduceLT, Nat.reduceLeDiff, Nat.reduceBEq, Nat.beq, Nat.ble, if_true, if_false, ite_true, ite_false, reduceIte, Bool.not_true, Bool.not_false, Bool.or_true, Bool.true_or, Bool.false_or, Bool.or_false, List.getElem?_cons_zero, List.getElem?_cons_succ]
      exact ev_rg1 (i := 10) q (rng_nat (a := 0) (b := 10) rfl rfl (by omega) (by omega))
    rw [ex_for rfl hi]
    have turn : ∀ i : Nat, (exSs gc (callF gc tab 1000 11) 1000 s_law_0 [vd (.opq 0), vi ((0 + i : Nat) : Int), vd (.opq 1), vd (.tup W), none, none, none] []).Al fun r => r = .nx [vd (.opq 0), vi ((0 + i : Nat) : Int), vd (.opq 1), vd (.tup W), none, none, none] [] := fun i => by
      unfold s_law_0
      refine st_all (Q := fun r => r = .nx [vd (.opq 0), vi ((0 + i : Nat) : Int), vd (.opq 1), vd (.tup W), none, none, none] []) ?_ ?_
      · simp only [runF, exSs, exS, evE, evEs, evO, evT, evR, evRs, bnd, onE, onN, F.bind, op2, rdV, rdVs, lfD, lf, bopD, cmpD, bltD, truD, dats, dats0, isScal, anyR, asg, asgs, endD, sets, noEx, isOwn, add_ii, sub_ii, lt_ii, gt_ii, le_ii, isD, Option.map_some, Option.map_none, Option.bind_some, Option.bind_none, Option.map, Option.bind, List.getD_cons_zero, List.getD_cons_succ, List.set_cons_zero, List.set_cons_succ, List.length_cons, List.length_nil, List.map_cons, List.map_nil, List.cons_append, List.nil_append, List.replicate, Nat.reduceAdd, Nat.reduceSub, Nat.reduceLT, Nat.reduceLeDiff, Nat.reduceBEq, Nat.beq, Nat.ble, if_true, if_false, ite_true, ite_false, reduceIte, Bool.not_true, Bool.not_false, Bool.or_true, Bool.true_or, Bool.false_or, Bool.or_false, List.getElem?_cons_zero, List.getElem?_cons_succ, Al_bind]
        refine al_imp r1 ?_
        rintro _ ⟨w, hw, rfl⟩
        have n := nn w hw
        simp only [runF, exSs, exS, evE, evEs, evO, evT, evR, evRs, bnd, onE, onN, F.bind, op2, rdV, rdVs, lfD, lf, bopD, cmpD, bltD, truD, dats, dats0, isScal, anyR, asg, asgs, endD, sets, noEx, isOwn, add_ii, sub_ii, lt_ii, gt_ii, le_ii, isD, Option.map_some, Option.map_none, Option.bind_some, Option.bind_none, Option.map, Option.bind, List.getD_cons_zero, List.getD_cons_succ, List.set_cons_zero, List.set_cons_succ, List.length_cons, List.length_nil, List.map_cons, List.map_nil, List.cons_append, List.nil_append, List.replicate, Nat.reduceAdd, Nat.reduceSub, Nat.reduceLT, Nat.reduceLeDiff, Nat.reduceBEq, Nat.beq, Nat.ble, if_true, if_false, ite_true, ite_false, reduceIte, Bool.not_true, Bool.not_false, Bool.or_true, Bool.true_or, Bool.false_or, Bool.or_false, List.getElem?_cons_zero, List.getElem?_cons_succ, n, Al_ret]
      · rintro _ rfl
        exact al_ret rfl
    rw [show (List.range (10 - 0)) = [0, 1, 2, 3, 4, 5, 6, 7, 8, 9] from rfl]
    refine for_one rfl (turn 0) ?_
    refine for_one rfl (turn 1) ?_
    refine for_one rfl (turn 2) ?_
    refine for_one rfl (turn 3) ?_
    refine for_one rfl (turn 4) ?_
    refine for_one rfl (turn 5) ?_
    refine for_one rfl (turn 6) ?_
    refine for_one rfl (turn 7) ?_
    refine for_one rfl (turn 8) ?_
    refine for_one rfl (turn 9) ?_
    exact al_ret rfl
  rintro _ rfl
  exact st_rt (v := .d (.bl true)) (h1 := []) (by rw [exS, c6]; rfl) (al_ret rfl)
theorem law_spA [PWc] {K : PySem.W.Frag} {mg : Str → Option Value} {G : Nm} {gc : Gc} {T : Tab} {wn : Nat} {k i : Nat} (hp : (G.fps i).length = 1) (hl : (callF gc T wn k i [.opq 0]).Al fun r => r = .ok (.bl true)) (H : Hp) (a : Addr) (ns : List Int) (hn : ns.length ≤ 63) (ho : ∀ p ∈ (tdf K).map fun x => He.cT K (x, none), H p.2 = some (.tbl #[])) (hs : SqL K H a (ns.map V.int)) :
    spC K mg G (callF gc T wn k) i [.ref a] H (fun v _ => v = .bl true) fun _ _ _ => False := law_sp hp (al_iff.mp hl) H a ns hn ho hs
end Bk
open PySem PySem.W PySem.Calls PyProof.Rows
theorem PySem.Challenge.cw_backcopies_k02_all_ways_holds : PySem.Challenge.rw_backcopies_k02_all_ways.Holds := by
  w_on; o_law
  refine HandSHeadRun.head_any (r := OpenLaw.row PySem.Challenge.rw_backcopies_k02_all_ways) (q := view (OpenLaw.row PySem.Challenge.rw_backcopies_k02_all_ways).prog [12]) (H := Bk.hk) (ob := Bk.ob) (M := 12000) (loose := Bk.loose) (d := HandSHeadRun.topDef (OpenLaw.row PySem.Challenge.rw_backcopies_k02_all_ways).prog 12) (kwd := []) Bk.ob_eq
    (by kernel_rfl) (fun s => by kernel_rfl) Bk.hRun (by kernel_rfl) (by kernel_rfl) (by kernel_rfl) (by rfl) (by first | assumption | decide +kernel) (by decide +kernel) ⟨rfl, rfl, rfl, rfl, rfl, by decide +kernel⟩ ?hw ?hc
  case hw => w_witness2
  case hc =>
    refine Bk.walk_ofTE (l := PySem.Challenge.rw_backcopies_k02_all_ways) (n := 63) (k := 48) (x := "script") (CX := Bk.CXs Bk.LP) rfl (by decide) (by kernel_rfl) ⟨rfl, by decide, by decide⟩ ?F (fun _ _ _ _ z => Bk.cxs_no z)
    intro w mg fa h Y Gh hmg0
    obtain ⟨K, KX, c⟩ := Y
    have hmg : mg ("law" : PySem.Str) = some (.ref fa) := by
      have e : (HandSHeadRun.topDef (OpenLaw.row PySem.Challenge.rw_backcopies_k02_all_ways).prog 12).name = ("law" : PySem.Str) := by kernel_rfl
      rw [← e]
      exact hmg0
    letI := Bk.pwc w
    obtain ⟨fd, hb, hF⟩ := Bk.facts KX Gh c hmg
    exact ⟨K, fd, _, _, KX, fun p hp => (Bk.tabs0 KX c p hp).1, fun p hp => (Bk.tabs0 KX c p hp).2.1, fun p hp => (Bk.tabs0 KX c p hp).2.2, hb, fun H a ns hl ho hS => Bk.law_spA rfl Bk.law_al H a ns hl ho hS, fun base _ _ ht => hF base ht⟩
