import PyProof.Rows.All
import Wide.All
import OpenK.AllK
import Wide.FinOn
import HandS.ForMost
import HandS.ForExc
import HandS.Wide
import HandS.WideBits
import HandS.Conv
import HandS.TupSets
import HandS.ExcOwn
import HandS.TryOnly
import HandS.SetFor
import KE.SortData
import HandS.IsInst
import HandS.Zip
import HandS.Flow
import HandS.Style
import HandS.Deep
import HandS.EndBits
import PySem.Challenge.RW_topups_k48_cups_to_and_fro
set_option Elab.async false
set_option linter.all false
set_option maxRecDepth 100000
set_option maxHeartbeats 4000000
/-! Pyf, part A: values as trees, the small syntax, the interpreter. -/
namespace Pyf
open PySem (Str PyData sizeLine)

/-- a value as a tree: lst a list that nobody changes any more, new one that its holder alone knows, ptr a cell -/
inductive D where
  | non | bl (b : Bool) | int (i : Int) | str (s : Str)
  | lst (xs : List D) | tup (xs : List D) | new (xs : List D) | ptr (k : Nat) | scr (ns : List Int)
  deriving Inhabited

inductive Cell where
  | dead | lst (xs : List D)
  deriving Inhabited
abbrev Store := List Cell
abbrev Slots := List (Option D)

inductive Res (α : Type) where
  | ok (a : α) (μ : Store) | exc (c : Str) (μ : Store) | bad
def Res.bind {α β : Type} (r : Res α) (f : α → Store → Res β) : Res β :=
  match r with
  | .ok a μ => f a μ
  | .exc c μ => .exc c μ
  | .bad => .bad
theorem Res.bind_ok {α β : Type} (a : α) (μ : Store) (f : α → Store → Res β) : (Res.ok a μ).bind f = f a μ := rfl
theorem Res.bind_exc {α β : Type} (c : Str) (μ : Store) (f : α → Store → Res β) : (Res.exc c μ).bind f = .exc c μ := rfl
theorem Res.bind_bad {α β : Type} (f : α → Store → Res β) : (Res.bad : Res α).bind f = .bad := rfl
def Res.ofO {α : Type} (o : Option α) (μ : Store) : Res α := match o with
  | some a => .ok a μ
  | none => .bad
@[simp] theorem Res.ofO_some {α : Type} (a : α) (μ : Store) : Res.ofO (some a) μ = .ok a μ := rfl
@[simp] theorem Res.ofO_none {α : Type} (μ : Store) : Res.ofO (none : Option α) μ = .bad := rfl

/-! ### trees -/
mutual
/-- nobody alone holds it any more -/
@[simp] def frz : D → D
  | .tup xs => .tup (frzL xs)
  | .new xs => .lst (frzL xs)
  | .non => .non | .bl b => .bl b | .int i => .int i | .str s => .str s | .lst xs => .lst xs | .ptr k => .ptr k | .scr ns => .scr ns
@[simp] def frzL : List D → List D
  | [] => []
  | x :: xs => frz x :: frzL xs
end
mutual
/-- no list within is held by one alone -/
def noNew : D → Bool
  | .tup xs => noNewL xs
  | .new _ => false
  | .non | .bl _ | .int _ | .str _ | .lst _ | .ptr _ | .scr _ => true
def noNewL : List D → Bool
  | [] => true
  | x :: xs => noNew x && noNewL xs
end
mutual
def noLst : D → Bool
  | .tup xs => noLstL xs
  | .new xs => noLstL xs
  | .lst _ => false
  | .scr _ => false
  | .non | .bl _ | .int _ | .str _ | .ptr _ => true
def noLstL : List D → Bool
  | [] => true
  | x :: xs => noLst x && noLstL xs
end
mutual
/-- no cell from n on is named -/
@[simp] def noPtr (n : Nat) : D → Bool
  | .tup xs => noPtrL n xs
  | .new xs => noPtrL n xs
  | .lst xs => noPtrL n xs
  | .ptr k => decide (k < n)
  | .non | .bl _ | .int _ | .str _ | .scr _ => true
@[simp] def noPtrL (n : Nat) : List D → Bool
  | [] => true
  | x :: xs => noPtr n x && noPtrL n xs
end

def asL (μ : Store) : D → Option (List D)
  | .lst xs => some xs
  | .new xs => some xs
  | .scr ns => some (ns.map .int)
  | .ptr k => match μ[k]? with
    | some (.lst xs) => some xs
    | _ => none
  | _ => none
/-- a list that may be joined to another -/
def asJ (μ : Store) : D → Option (List D)
  | .lst xs => some xs
  | .new xs => some xs
  | .ptr k => match μ[k]? with
    | some (.lst xs) => some xs
    | _ => none
  | _ => none
def asQ (μ : Store) : D → Option (List D)
  | .tup xs => some xs
  | d => asL μ d

@[simp] def mapO {α β : Type} (f : α → Option β) : List α → Option (List β)
  | [] => some []
  | x :: xs => match f x with
    | some y => match mapO f xs with
      | some ys => some (y :: ys)
      | none => none
    | none => none

/-- the data that == and repr see -/
def toP (μ : Store) : Nat → D → Option PyData
  | 0, _ => none
  | n + 1, d => match d with
    | .non => some .none
    | .bl b => some (.bool b)
    | .int i => some (.int i)
    | .str s => some (.str s)
    | .lst xs => (mapO (toP μ n) xs).map .list
    | .new xs => (mapO (toP μ n) xs).map .list
    | .tup xs => (mapO (toP μ n) xs).map .tuple
    | .scr ns => some (.list (ns.map .int))
    | .ptr k => match μ[k]? with
      | some (.lst xs) => (mapO (toP μ n) xs).map .list
      | _ => none
def eqD (μ : Store) (x y : D) : Option Bool := match toP μ 40 x, toP μ 40 y with
  | some p, some q => if PySem.SeqAt.shaped p && PySem.SeqAt.shaped q then some (PyData.eqv p q) else none
  | _, _ => none

def intsOf : List D → Option (List Int)
  | [] => some []
  | .int i :: xs => (intsOf xs).map (i :: ·)
  | _ :: _ => none
def boolsOf : List D → Option (List Bool)
  | [] => some []
  | .bl i :: xs => (boolsOf xs).map (i :: ·)
  | _ :: _ => none
def strsOf : List D → Option (List Str)
  | [] => some []
  | .str i :: xs => (strsOf xs).map (i :: ·)
  | _ :: _ => none

/-! ### operations -/
inductive Op where | add | sub | mul | fdiv | mod | pow
inductive Cm where | eq | ne | lt | le | gt | ge | is_ | isnot | in_ | notin

def mulOk (i j : Int) : Bool := decide (PySem.Builtin.Int.intBits i + PySem.Builtin.Int.intBits j ≤ 134217728)
def divOk (j : Int) : Bool := decide (0 < j) && decide (j.natAbs.log2 < 9000)
def powOk (i j : Int) : Bool := decide (0 ≤ j) && decide (PySem.Builtin.Int.intBits i * j.toNat ≤ 134217728)

def catL (μ : Store) (x y : D) : Res D := match asJ μ x, asJ μ y with
  | some xs, some ys => if xs.length + ys.length ≤ sizeLine then .ok (.new (xs ++ ys)) μ else .bad
  | _, _ => .bad
def repOk (n : Nat) (k : Int) : Bool := decide (k.natAbs < 9223372036854775808) && decide (n * k.toNat ≤ sizeLine)
theorem repOk_of {n : Nat} {k : Int} (h : repOk n k = true) : -(2 ^ 63) ≤ k ∧ k < 2 ^ 63 ∧ n * k.toNat ≤ sizeLine := by
  unfold repOk at h
  rw [Bool.and_eq_true] at h
  have h1 := of_decide_eq_true h.1
  exact ⟨by omega, by omega, of_decide_eq_true h.2⟩
def repL (μ : Store) (x : D) (k : Int) : Res D := match asJ μ x with
  | some xs => if repOk xs.length k = true then .ok (.new (List.replicate k.toNat (frzL xs)).flatten) μ else .bad
  | none => .bad
@[simp] def binD (o : Op) (x y : D) (μ : Store) : Res D := match o with
  | .add => match x with
    | .int i => match y with
      | .int j => .ok (.int (i + j)) μ
      | _ => .bad
    | .str s => match y with
      | .str t => if s.length + t.length ≤ sizeLine then .ok (.str (s ++ t)) μ else .bad
      | _ => .bad
    | _ => catL μ x y
  | .sub => match x, y with
    | .int i, .int j => .ok (.int (i - j)) μ
    | _, _ => .bad
  | .mul => match x with
    | .int i => match y with
      | .int j => if mulOk i j then .ok (.int (i * j)) μ else .bad
      | _ => .bad
    | _ => match y with
      | .int k => repL μ x k
      | _ => .bad
  | .fdiv => match x, y with
    | .int i, .int j => if divOk j then .ok (.int (i / j)) μ else .bad
    | _, _ => .bad
  | .mod => match x, y with
    | .int i, .int j => if 0 < j then .ok (.int (i % j)) μ else .bad
    | _, _ => .bad
  | .pow => match x, y with
    | .int i, .int j => if powOk i j then .ok (.int (i ^ j.toNat)) μ else .bad
    | _, _ => .bad

/-- is it None, True, False -/
@[simp] def isNon : D → Bool
  | .non => true
  | _ => false
@[simp] def isD (x y : D) : Option Bool := match y with
  | .non => some (isNon x)
  | .bl b => match x with
    | .bl c => some (decide (c = b))
    | _ => none
  | _ => none
def inD (μ : Store) (x y : D) : Option Bool := match y with
  | .str t => match x with
    | .str s => some (!(PySem.Builtin.Str.occurrences t s 0 t.length 1).isEmpty)
    | _ => none
  | _ => match toP μ 40 x, toP μ 40 y with
    | some p, some (.list qs) => if PySem.SeqAt.shaped p && PySem.SeqAt.shaped (.list qs) then some (qs.any fun z => PyData.eqv z p) else none
    | _, _ => none
@[simp] def cmpD (o : Cm) (x y : D) (μ : Store) : Option Bool := match o with
  | .eq => eqD μ x y
  | .ne => (eqD μ x y).map (!·)
  | .lt => match x, y with
    | .int i, .int j => some (decide (i < j))
    | _, _ => none
  | .le => match x, y with
    | .int i, .int j => some (decide (i ≤ j))
    | _, _ => none
  | .gt => match x, y with
    | .int i, .int j => some (decide (j < i))
    | _, _ => none
  | .ge => match x, y with
    | .int i, .int j => some (decide (j ≤ i))
    | _, _ => none
  | .is_ => isD x y
  | .isnot => (isD x y).map (!·)
  | .in_ => inD μ x y
  | .notin => (inD μ x y).map (!·)

def truD (μ : Store) : D → Option Bool
  | .non => some false
  | .bl b => some b
  | .int i => some (i != 0)
  | .str s => if s.length ≤ sizeLine then some ((s.length : Int) != 0) else none
  | .tup xs => some (!xs.isEmpty)
  | .lst xs => some (!xs.isEmpty)
  | .new xs => some (!xs.isEmpty)
  | .scr ns => some (!ns.isEmpty)
  | .ptr k => match μ[k]? with
    | some (.lst xs) => some (!xs.isEmpty)
    | _ => none

inductive Ty where | int | bool | str | list | tuple
  deriving DecidableEq
def hasTy (μ : Store) (T : Ty) : D → Option Bool
  | .non => some false
  | .bl _ => some (T == .bool || T == .int)
  | .int _ => some (T == .int)
  | .str _ => some (T == .str)
  | .tup _ => some (T == .tuple)
  | .lst _ => some (T == .list)
  | .new _ => some (T == .list)
  | .scr _ => some (T == .list)
  | .ptr k => match μ[k]? with
    | some (.lst _) => some (T == .list)
    | _ => none

/-! ### built-ins -/
inductive Bi where
  | len | sum | abs | all | any | int | max1 | min1 | max2 | min2 | list | tuple | repr | str | divmod | sorted

def maxL : List Int → Int
  | [] => 0
  | [x] => x
  | x :: xs => let m := maxL xs; if x ≤ m then m else x
def minL : List Int → Int
  | [] => 0
  | [x] => x
  | x :: xs => let m := minL xs; if m ≤ x then m else x

@[simp] def bi1 (f : D → Store → Res D) (xs : List D) (μ : Store) : Res D := match xs with
  | [x] => f x μ
  | _ => .bad
@[simp] def bi2 (f : D → D → Store → Res D) (xs : List D) (μ : Store) : Res D := match xs with
  | [x, y] => f x y μ
  | _ => .bad
def lenD (x : D) (μ : Store) : Res D := match x with
  | .str s => if s.length ≤ sizeLine then .ok (.int s.length) μ else .bad
  | x => match asQ μ x with
    | some ys => .ok (.int ys.length) μ
    | none => .bad
@[simp] def sumD (x : D) (μ : Store) : Res D := match (asL μ x).bind intsOf with
  | some ns => .ok (.int ns.sum) μ
  | none => .bad
@[simp] def absD (x : D) (μ : Store) : Res D := match x with
  | .int i => .ok (.int (if i < 0 then -i else i)) μ
  | _ => .bad
@[simp] def allD (x : D) (μ : Store) : Res D := match (asL μ x).bind boolsOf with
  | some bs => .ok (.bl (bs.all id)) μ
  | none => .bad
@[simp] def anyD (x : D) (μ : Store) : Res D := match (asL μ x).bind boolsOf with
  | some bs => .ok (.bl (bs.any id)) μ
  | none => .bad
@[simp] def intD (x : D) (μ : Store) : Res D := match x with
  | .int i => .ok (.int i) μ
  | .bl b => .ok (.int (if b then 1 else 0)) μ
  | _ => .bad
def max1D (x : D) (μ : Store) : Res D := match (asL μ x).bind intsOf with
  | some ns => if 0 < ns.length then .ok (.int (maxL ns)) μ else .bad
  | none => .bad
def min1D (x : D) (μ : Store) : Res D := match (asL μ x).bind intsOf with
  | some ns => if 0 < ns.length then .ok (.int (minL ns)) μ else .bad
  | none => .bad
def max2D (x y : D) (μ : Store) : Res D := match x, y with
  | .int i, .int j => .ok (.int (if j > i then j else i)) μ
  | _, _ => .bad
def min2D (x y : D) (μ : Store) : Res D := match x, y with
  | .int i, .int j => .ok (.int (if j < i then j else i)) μ
  | _, _ => .bad
@[simp] def listD (x : D) (μ : Store) : Res D := match asQ μ x with
  | some ys => .ok (.new ys) μ
  | none => .bad
@[simp] def tupleD (x : D) (μ : Store) : Res D := match asL μ x with
  | some ys => .ok (.tup ys) μ
  | none => .bad
def reprD (x : D) (μ : Store) : Res D := match toP μ 40 x with
  | some p => if p.showable && !p.hasDict && decide (p.shown.length ≤ sizeLine) && decide (p.depth ≤ 60) then .ok (.str p.shown) μ else .bad
  | none => .bad
def strD (x : D) (μ : Store) : Res D := match x with
  | .int i => if i.natAbs.log2 < 1920 then .ok (.str (toString i : String)) μ else .bad
  | _ => .bad
def divmodD (x y : D) (μ : Store) : Res D := match x, y with
  | .int i, .int j => if divOk j then .ok (.tup [.int (i / j), .int (i % j)]) μ else .bad
  | _, _ => .bad
/-- sorted(x): by what its items read as -/
noncomputable def sortBy (ys : List D) (ps : List PyData) : List D := ((ys.zip ps).mergeSort (PySem.W.dataLe false Prod.snd)).map Prod.fst
open Classical in
noncomputable def sortD (x : D) (μ : Store) : Res D := match asL μ x with
  | some ys => match mapO (toP μ 40) ys with
    | some ps => if PySem.W.AllAlike ps ∧ PySem.W.Sortable ps ∧ ∀ p ∈ ps, p.depth ≤ 60 then .ok (.new (sortBy ys ps)) μ else .bad
    | none => .bad
  | none => .bad
@[simp] noncomputable def biD (b : Bi) (xs : List D) (μ : Store) : Res D := match b with
  | .len => bi1 lenD xs μ
  | .sum => bi1 sumD xs μ
  | .abs => bi1 absD xs μ
  | .all => bi1 allD xs μ
  | .any => bi1 anyD xs μ
  | .int => bi1 intD xs μ
  | .max1 => bi1 max1D xs μ
  | .min1 => bi1 min1D xs μ
  | .max2 => bi2 max2D xs μ
  | .min2 => bi2 min2D xs μ
  | .list => bi1 listD xs μ
  | .tuple => bi1 tupleD xs μ
  | .repr => bi1 reprD xs μ
  | .str => bi1 strD xs μ
  | .divmod => bi2 divmodD xs μ
  | .sorted => bi1 sortD xs μ

/-! ### methods -/
inductive Me where
  | append | extend | pop | index | count | insert
  deriving DecidableEq
def idxP (p : PyData) : List PyData → Nat → Option Nat
  | [], _ => none
  | z :: zs, n => if PyData.eqv z p = true then some n else idxP p zs (n + 1)
def idxD (μ : Store) (x o : D) : Option Nat := match toP μ 40 x, toP μ 40 o with
  | some p, some (.list qs) => if PySem.SeqAt.shaped p && PySem.SeqAt.shaped (.list qs) then idxP p qs 0 else none
  | _, _ => none
@[simp] def cellD (μ : Store) (o : D) : Option (Nat × List D) := match o with
  | .ptr k => match μ[k]? with
    | some (.lst ys) => some (k, ys)
    | _ => none
  | _ => none
@[simp] def appendD (o x : D) (μ : Store) : Res D := match cellD μ o with
  | some (k, ys) => if ys.length < sizeLine then .ok .non (μ.set k (.lst (ys ++ [frz x]))) else .bad
  | none => .bad
def extendD (o x : D) (μ : Store) : Res D := match cellD μ o, asJ μ x with
  | some (k, ys), some zs => if ys.length + zs.length ≤ sizeLine then .ok .non (μ.set k (.lst (ys ++ frzL zs))) else .bad
  | _, _ => .bad
def pop0D (o : D) (μ : Store) : Res D := match cellD μ o with
  | some (k, ys) => match ys[ys.length - 1]? with
    | some y => .ok y (μ.set k (.lst ys.dropLast))
    | none => .bad
  | none => .bad
def popAtD (o i : D) (μ : Store) : Res D := match cellD μ o, i with
  | some (k, ys), .int i => match L2.ixN ys.length i with
    | some j => match ys[j]? with
      | some y => .ok y (μ.set k (.lst (ys.eraseIdx j)))
      | none => .bad
    | none => .bad
  | _, _ => .bad
def indexD (o x : D) (μ : Store) : Res D := match idxD μ x o with
  | some j => .ok (.int j) μ
  | none => .bad
def countD (o x : D) (μ : Store) : Res D := match (asL μ o).bind intsOf, x with
  | some ns, .int k => .ok (.int (ns.count k : Nat)) μ
  | _, _ => .bad
@[simp] def meD (m : Me) (o : D) (xs : List D) (μ : Store) : Res D := match m with
  | .append => bi1 (appendD o) xs μ
  | .extend => bi1 (extendD o) xs μ
  | .pop => match xs with
    | [] => pop0D o μ
    | xs => bi1 (popAtD o) xs μ
  | .index => bi1 (indexD o) xs μ
  | .count => bi1 (countD o) xs μ
  | .insert => .bad

/-! ### places -/
def ixD (μ : Store) (x i : D) : Res D := match i with
  | .int i => match x with
    | .str s => match L2.atI s.cps.toList i with
      | some c => if s.length ≤ sizeLine then .ok (.str ⟨#[c]⟩) μ else .bad
      | none => .bad
    | _ => match asQ μ x with
      | some ys => match L2.atI ys i with
        | some y => .ok y μ
        | none => .bad
      | none => .bad
  | _ => .bad
/-- a slice's part: absent, or an int -/
@[simp] def loF (b : Bool) (d : D) : Option (Option Int) := if b = true then match d with
    | .int i => some (some i)
    | _ => none
  else some none
def cutD (xs : List D) (lo hi : Option Int) : List D := (xs.drop (HT.sIx xs.length 0 lo)).take (HT.sIx xs.length xs.length hi - HT.sIx xs.length 0 lo)
/-- x[::-1] -/
@[simp] def revD (x : D) (μ : Store) : Res D := match asL μ x with
  | some ys => .ok (.new ys.reverse) μ
  | none => .bad
@[simp] def slD (μ : Store) (x : D) (l h : Option Int) : Res D := match asL μ x with
  | some ys => .ok (.new (cutD ys l h)) μ
  | none => .bad
@[simp] def setD (μ : Store) (o i x : D) : Res Unit := match cellD μ o, i with
  | some (k, ys), .int i => match L2.ixN ys.length i with
    | some j => .ok () (μ.set k (.lst (ys.set j (frz x))))
    | none => .bad
  | _, _ => .bad

/-! ### calls -/
structure Den where
  ps : List Str
  run : List D → Store → Res D
/-- a def of which nothing is known -/
def denBad (ps : List Str) : Den := ⟨ps, fun _ _ => .bad⟩

mutual
@[simp] def allocT : D → Store → D × Store
  | .tup xs, μ => let (ys, μ1) := allocL xs μ; (.tup ys, μ1)
  | .new xs, μ => let (ys, μ1) := allocL xs μ; (.ptr μ1.length, μ1 ++ [.lst (frzL ys)])
  | d, μ => (d, μ)
@[simp] def allocL : List D → Store → List D × Store
  | [], μ => ([], μ)
  | x :: xs, μ => let (y, μ1) := allocT x μ; let (ys, μ2) := allocL xs μ1; (y :: ys, μ2)
end

/-- how a value is laid down at a name -/
inductive Md where | frz | own | deep
@[simp] def layD (m : Md) (d : D) (μ : Store) : Res D := match m with
  | .frz => .ok (frz d) μ
  | .own => match d with
    | .new xs => .ok (.ptr μ.length) (μ ++ [.lst (frzL xs)])
    | .ptr k => .ok (.ptr k) μ
    | _ => .bad
  | .deep => let (y, μ1) := allocT d μ; .ok y μ1

/-- the tree behind cells, as if frozen -/
def snap (μ : Store) : Nat → D → Option D
  | 0, _ => none
  | n + 1, d => match d with
    | .lst xs => (mapO (snap μ n) xs).map .lst
    | .tup xs => (mapO (snap μ n) xs).map .tup
    | .ptr k => match μ[k]? with
      | some (.lst xs) => (mapO (snap μ n) xs).map .lst
      | _ => none
    | .new _ => none
    | .scr ns => some (.scr ns)
    | d => some d
def ptrsAt : List Bool → List D → List Nat
  | true :: io, .ptr k :: ds => k :: ptrsAt io ds
  | _ :: io, _ :: ds => ptrsAt io ds
  | _, _ => []
def plainAt : List Bool → List D → Bool
  | true :: io, _ :: ds => plainAt io ds
  | false :: io, d :: ds => noPtr 0 d && plainAt io ds
  | [], d :: ds => noPtr 0 d && plainAt [] ds
  | _, [] => true
def snapAt (μ : Store) : List Bool → List D → Option (List D)
  | true :: io, d :: ds => (snapAt μ io ds).map (d :: ·)
  | false :: io, d :: ds => match snap μ 40 d, snapAt μ io ds with
    | some y, some ys => some (y :: ys)
    | _, _ => none
  | [], d :: ds => match snap μ 40 d, snapAt μ [] ds with
    | some y, some ys => some (y :: ys)
    | _, _ => none
  | _, [] => some []
/-- the cells that are not handed on are dead for the while -/
def hush (ks : List Nat) (μ : Store) : Store := μ.mapIdx fun k c => if k ∈ ks then c else .dead
def wake (ks : List Nat) (μ μ' : Store) : Store := μ.mapIdx fun k c => if k ∈ ks then (μ'[k]?).getD .dead else c
@[simp] def ptrs : List D → List Nat
  | [] => []
  | .ptr k :: ds => k :: ptrs ds
  | _ :: ds => ptrs ds
@[simp] def renum : Nat → List D → List D
  | _, [] => []
  | n, .ptr _ :: ds => .ptr n :: renum (n + 1) ds
  | n, d :: ds => d :: renum n ds
def okA : D → Bool
  | .ptr _ => true
  | d => noPtr 0 d
def cellIn (n : Nat) : Cell → Bool
  | .lst xs => noPtrL n xs
  | .dead => true
@[simp] def getCs (μ : Store) : List Nat → Option Store
  | [] => some []
  | k :: ks => match μ[k]?, getCs μ ks with
    | some (.lst xs), some cs => if noPtrL 0 xs = true then some (.lst xs :: cs) else none
    | _, _ => none
@[simp] def putCs : List Nat → Store → Store → Store
  | k :: ks, c :: cs, μ => putCs ks cs (μ.set k c)
  | _, _, μ => μ
/-- trees as they are now: cells within are read -/
def viewD : Nat → Store → D → Option D
  | 0, _, d => if noPtr 0 d = true then some d else none
  | n + 1, μ, d => if noPtr 0 d = true then some d else match d with
    | .ptr k => match μ[k]? with
      | some (.lst xs) => (mapO (viewD n μ) xs).map .lst
      | _ => none
    | .tup xs => (mapO (viewD n μ) xs).map .tup
    | .lst xs => (mapO (viewD n μ) xs).map .lst
    | _ => none
def isSc : D → Bool
  | .non => true
  | .bl _ => true
  | .int _ => true
  | .str _ => true
  | _ => false
/-- a callee that only looks: cells within lists and tuples are handed on as they are; it hands back no list -/
def callV (f : Den) (args : List D) (μ : Store) : Res D :=
  if args.length = f.ps.length then match mapO (viewD 4 μ) (frzL args) with
    | some ds => match f.run ds [] with
      | .ok d [] => if isSc d = true then .ok d μ else .bad
      | _ => .bad
    | none => .bad
  else .bad
/-- the callee sees the cells that it is given, and no other -/
@[simp] def callD (f : Den) (args : List D) (μ : Store) : Res D :=
  if args.length = f.ps.length ∧ (frzL args).all okA = true ∧ (ptrs (frzL args)).Nodup then match getCs μ (ptrs (frzL args)) with
    | some cs => match f.run (renum 0 (frzL args)) cs with
      | .ok d μ' => if noPtr 0 d = true ∧ μ'.length = (ptrs (frzL args)).length ∧ μ'.all (cellIn 0) = true then .ok d (putCs (ptrs (frzL args)) μ' μ) else .bad
      | .exc c μ' => if μ'.length = (ptrs (frzL args)).length ∧ μ'.all (cellIn 0) = true then .exc c (putCs (ptrs (frzL args)) μ' μ) else .bad
      | .bad => .bad
    | none => callV f args μ
  else callV f args μ
end Pyf

/-! Pyf, part B: the small syntax and what it means. -/
namespace Pyf
open PySem (Str PyData sizeLine)
open Classical in
section

/-- a target of names -/
inductive Tn where
  | nm (i : Nat) | tp (is : List Nat)

mutual
inductive E where
  | k (d : D)
  | v (i : Nat)
  | g (x : Str) (d : D)
  | bin (o : Op) (a b : E)
  | neg (a : E)
  | nt (a : E)
  | bop (isAnd : Bool) (es : Es)
  | cmp (a : E) (cs : Cs)
  | ite (c a b : E)
  | lst (es : Es)
  | tup (es : Es)
  | ix (a i : E)
  | sl (a lo hi : E) (bl bh : Bool)
  | lc (elt : E) (tg : Tn) (it : I) (cs : Es)
  | call (x : Str) (f : Den) (es ks : Es) (kw : List Str)
  | bi (b : Bi) (es : Es)
  | isi (a : E) (ts : List Ty) (one : Bool)
  | me (m : Me) (o : E) (es : Es)
  | own (e : E)
  | rev (e : E)
  | rgl (a b : E)
  | lset (e : E)
  | bits (e : E)
inductive Es where
  | nil | cons (e : E) (es : Es)
inductive Cs where
  | nil | cons (o : Cm) (e : E) (cs : Cs)
inductive I where
  | seq (e : E) | rng (es : Es) | enm (e : E) | zip (a b : E)
end

mutual
inductive S where
  | asg (t : Tn) (m : Md) (e : E)
  | par (ts : List (Nat × Md)) (es : Es)
  | set (o i e : E)
  | aug (i : Nat) (o : Op) (e : E)
  | augs (o i : E) (op : Op) (e : E)
  | set2 (o i o' i' e : E)
  | ex (e : E)
  | ifs (c : E) (a b : Ss)
  | whl (c : E) (b : Ss)
  | frs (t : Tn) (it : I) (b : Ss)
  | ret (e : E)
  | retN
  | brk
  | cnt
  | pas
  | rais (x m : Str)
  | tryx (b : Ss) (x : Str) (cs ns : List Str) (h : S)
  | never
  | fz (i : Nat)
inductive Ss where
  | nil | cons (s : S) (ss : Ss)
end

/-! ### names -/
@[simp] def bindAll : List Nat → List D → Slots → Option Slots
  | [], [], ρ => some ρ
  | i :: is, d :: ds, ρ => if i < ρ.length then bindAll is ds (ρ.set i (some (frz d))) else none
  | _, _, _ => none
@[simp] def bindT : Tn → D → Slots → Option Slots
  | .nm i, d, ρ => if i < ρ.length then some (ρ.set i (some (frz d))) else none
  | .tp is, .tup ds, ρ => bindAll is ds ρ
  | .tp _, _, _ => none

/-! ### what is walked -/
structure Items where
  ds : List D
  lv : List (Nat × List D)
def lvOk (lv : List (Nat × List D)) (μ : Store) : Prop := ∀ p ∈ lv, μ[p.1]? = some (.lst p.2)
def itemsOf (μ : Store) : D → Option Items
  | .lst xs => some ⟨xs, []⟩
  | .new xs => some ⟨frzL xs, []⟩
  | .scr ns => some ⟨ns.map .int, []⟩
  | .tup xs => some ⟨frzL xs, []⟩
  | .ptr k => match μ[k]? with
    | some (.lst xs) => some ⟨xs, [(k, xs)]⟩
    | _ => none
  | .str s => some ⟨s.cps.toList.map fun c => .str ⟨#[c]⟩, []⟩
  | _ => none
def listItems (μ : Store) : D → Option Items
  | .lst xs => some ⟨xs, []⟩
  | .new xs => some ⟨frzL xs, []⟩
  | .scr ns => some ⟨ns.map .int, []⟩
  | .ptr k => match μ[k]? with
    | some (.lst xs) => some ⟨xs, [(k, xs)]⟩
    | _ => none
  | _ => none
def enumL (n : Nat) : List D → List D
  | [] => []
  | x :: xs => .tup [.int n, x] :: enumL (n + 1) xs
def zipL : List D → List D → List D
  | x :: xs, y :: ys => .tup [x, y] :: zipL xs ys
  | _, _ => []
def small62 (i : Int) : Bool := decide (i.natAbs < 4611686018427387904)
def rangeL (lo c : Int) : Nat → List D
  | 0 => []
  | n + 1 => .int lo :: rangeL (lo + c) c n
def rangeD : List D → Option (List D)
  | [.int n] => if small62 n then some (rangeL 0 1 n.toNat) else none
  | [.int i, .int j] => if small62 i && small62 j then some (rangeL i 1 (j - i).toNat) else none
  | [.int i, .int j, .int c] => if small62 i && small62 j then
      if c = -1 then some (rangeL i (-1) (i - j).toNat)
      else if 0 < c ∧ c < 1000000 then some (rangeL i c (if i < j then (j - i - 1) / c + 1 else 0).toNat) else none
    else none
  | _ => none

/-- list(range(i, j)) -/
def rglD (x y : D) (μ : Store) : Res D := match x, y with
  | .int i, .int j => if (small62 i && small62 j && decide ((j - i).toNat ≤ 16777216)) = true then .ok (.new (rangeL i 1 (j - i).toNat)) μ else .bad
  | _, _ => .bad
/-- so many different ones -/
def distN (ns : List Int) : Nat := (ns.foldl PyProof.Rows.step_dedup []).length
/-- x.bit_length() -/
@[simp] def bitsD (x : D) (μ : Store) : Res D := match x with
  | .int i => .ok (.int (PySem.Builtin.Int.intBits i : Nat)) μ
  | _ => .bad
/-- len(set(x)) -/
def lsetD (x : D) (μ : Store) : Res D := match (asL μ x).bind intsOf with
  | some ns => if ns.length < 64 then .ok (.int (distN ns)) μ else .bad
  | none => .bad
noncomputable def lcS (tg : Tn) (tst : Slots → Store → Res Bool) (elt : Slots → Store → Res D) (lv : List (Nat × List D)) (ρ : Slots) : List D → List D → Store → Res D
  | [], acc, μ => if lvOk lv μ then .ok (.new acc) μ else .bad
  | d :: ds, acc, μ => if lvOk lv μ then
      match bindT tg d ρ with
      | none => .bad
      | some ρ' => match tst ρ' μ with
        | .ok true μ1 => match elt ρ' μ1 with
          | .ok y μ2 => if acc.length < sizeLine then lcS tg tst elt lv ρ ds (acc ++ [y]) μ2 else .bad
          | _ => .bad
        | .ok false μ1 => lcS tg tst elt lv ρ ds acc μ1
        | _ => .bad
    else .bad

/-- keywords put in the parameters' places -/
@[simp] def findIx (x : Str) : List Str → Nat → Option Nat
  | [], _ => none
  | y :: ys, n => if x = y then some n else findIx x ys (n + 1)
@[simp] def consO {α : Type} (o : Option α) (r : Option (List α)) : Option (List α) := match o, r with
  | some d, some l => some (d :: l)
  | _, _ => none
@[simp] def getK {α : Type} (np : Nat) (kw : List Str) (ds : List α) (p : Str) (i : Nat) : Option α :=
  if i < np then ds[i]? else match findIx p kw 0 with
    | some j => ds[np + j]?
    | none => none
@[simp] def placed {α : Type} (np : Nat) (kw : List Str) (ds : List α) : List Str → Nat → Option (List α)
  | [], _ => some []
  | p :: ps, i => consO (getK np kw ds p i) (placed np kw ds ps (i + 1))

@[simp] def negD (x : D) (μ : Store) : Res D := match x with
  | .int i => .ok (.int (-i)) μ
  | _ => .bad
@[simp] def notD (x : D) (μ : Store) : Res D := match x with
  | .bl b => .ok (.bl (!b)) μ
  | _ => .bad

/-- what an expression gives as a value, as a test -/
structure P where
  e : Slots → Store → Res D
  t : Slots → Store → Res Bool
def P.of (f : Slots → Store → Res D) : P := ⟨f, fun ρ μ => (f ρ μ).bind fun x μ1 => Res.ofO (truD μ1 x) μ1⟩

mutual
@[simp] noncomputable def ev : E → P
  | .k d => P.of fun _ μ => .ok d μ
  | .v i => P.of fun ρ μ => match ρ[i]? with
    | some (some d) => .ok d μ
    | _ => .bad
  | .g _ d => P.of fun _ μ => .ok d μ
  | .bin o a b => P.of fun ρ μ => ((ev a).e ρ μ).bind fun x μ1 => ((ev b).e ρ μ1).bind fun y μ2 => binD o x y μ2
  | .neg a => P.of fun ρ μ => ((ev a).e ρ μ).bind fun x μ1 => negD x μ1
  | .nt a => ⟨fun ρ μ => ((ev a).e ρ μ).bind fun x μ1 => notD x μ1, fun ρ μ => ((ev a).t ρ μ).bind fun b μ1 => .ok (!b) μ1⟩
  | .bop c es => evB es c
  | .cmp a cs => P.of fun ρ μ => ((ev a).e ρ μ).bind fun x μ1 => evC cs x ρ μ1
  | .ite c a b => ⟨fun ρ μ => ((ev c).t ρ μ).bind fun t μ1 => if t = true then (ev a).e ρ μ1 else (ev b).e ρ μ1,
      fun ρ μ => ((ev c).t ρ μ).bind fun t μ1 => if t = true then (ev a).t ρ μ1 else (ev b).t ρ μ1⟩
  | .lst es => P.of fun ρ μ => (evs es ρ μ).bind fun xs μ1 => if xs.length ≤ sizeLine then .ok (.new xs) μ1 else .bad
  | .tup es => P.of fun ρ μ => (evs es ρ μ).bind fun xs μ1 => if xs.length ≤ sizeLine then .ok (.tup xs) μ1 else .bad
  | .ix a i => P.of fun ρ μ => ((ev a).e ρ μ).bind fun x μ1 => ((ev i).e ρ μ1).bind fun y μ2 => ixD μ2 x y
  | .sl a lo hi bl bh => P.of fun ρ μ => ((ev a).e ρ μ).bind fun x μ1 => ((ev lo).e ρ μ1).bind fun y μ2 => (Res.ofO (loF bl y) μ2).bind fun l μ2 => ((ev hi).e ρ μ2).bind fun z μ3 => (Res.ofO (loF bh z) μ3).bind fun h μ3 => slD μ3 x l h
  | .lc elt tg it cs => P.of fun ρ μ => (evI it ρ μ).bind fun J μ1 => lcS tg (evTs cs) (ev elt).e J.lv ρ J.ds [] μ1
  | .call _ f es ks kw => P.of fun ρ μ => (evs es ρ μ).bind fun xs μ1 => (evs ks ρ μ1).bind fun ys μ2 => match placed xs.length kw (xs ++ ys) f.ps 0 with
    | some zs => callD f zs μ2
    | none => .bad
  | .bi b es => P.of fun ρ μ => (evs es ρ μ).bind fun xs μ1 => biD b xs μ1
  | .isi a ts _ => P.of fun ρ μ => ((ev a).e ρ μ).bind fun x μ1 => Res.ofO ((mapO (fun T => hasTy μ1 T x) ts).map fun bs => .bl (bs.any id)) μ1
  | .me m o es => P.of fun ρ μ => ((ev o).e ρ μ).bind fun x μ1 => if (asL μ1 x).isSome = true then (evs es ρ μ1).bind fun xs μ2 => meD m x xs μ2 else .bad
  | .own e => P.of fun ρ μ => ((ev e).e ρ μ).bind fun x μ1 => layD .own x μ1
  | .rev e => P.of fun ρ μ => ((ev e).e ρ μ).bind fun x μ1 => revD x μ1
  | .rgl a b => P.of fun ρ μ => ((ev a).e ρ μ).bind fun x μ1 => ((ev b).e ρ μ1).bind fun y μ2 => rglD x y μ2
  | .lset e => P.of fun ρ μ => ((ev e).e ρ μ).bind fun x μ1 => lsetD x μ1
  | .bits e => P.of fun ρ μ => ((ev e).e ρ μ).bind fun x μ1 => bitsD x μ1
@[simp] noncomputable def evs : Es → Slots → Store → Res (List D)
  | .nil => fun _ μ => .ok [] μ
  | .cons e es => fun ρ μ => ((ev e).e ρ μ).bind fun x μ1 => (evs es ρ μ1).bind fun xs μ2 => .ok (x :: xs) μ2
/-- and, or: as values all but the last True or False -/
@[simp] noncomputable def evB : Es → Bool → P
  | .nil => fun c => ⟨fun _ _ => .bad, fun _ μ => .ok c μ⟩
  | .cons e .nil => fun c => ⟨(ev e).e, fun ρ μ => ((ev e).t ρ μ).bind fun b μ1 => .ok b μ1⟩
  | .cons e (.cons e' es) => fun c => ⟨fun ρ μ => ((ev e).e ρ μ).bind fun x μ1 => match x with
      | .bl b => if b = c then (evB (.cons e' es) c).e ρ μ1 else .ok (.bl b) μ1
      | _ => .bad,
    fun ρ μ => ((ev e).t ρ μ).bind fun b μ1 => if b = c then (evB (.cons e' es) c).t ρ μ1 else .ok b μ1⟩
@[simp] noncomputable def evC : Cs → D → Slots → Store → Res D
  | .nil => fun _ _ _ => .bad
  | .cons o e .nil => fun x ρ μ => ((ev e).e ρ μ).bind fun y μ1 => Res.ofO ((cmpD o x y μ1).map .bl) μ1
  | .cons o e (.cons o' e' cs) => fun x ρ μ => ((ev e).e ρ μ).bind fun y μ1 => match cmpD o x y μ1 with
    | some true => evC (.cons o' e' cs) y ρ μ1
    | some false => .ok (.bl false) μ1
    | none => .bad
@[simp] noncomputable def evI : I → Slots → Store → Res Items
  | .seq e => fun ρ μ => ((ev e).e ρ μ).bind fun x μ1 => Res.ofO (itemsOf μ1 x) μ1
  | .rng es => fun ρ μ => (evs es ρ μ).bind fun xs μ1 => Res.ofO ((rangeD xs).map fun ds => ⟨ds, []⟩) μ1
  | .enm e => fun ρ μ => ((ev e).e ρ μ).bind fun x μ1 => Res.ofO ((listItems μ1 x).map fun J => ⟨enumL 0 J.ds, J.lv⟩) μ1
  | .zip a b => fun ρ μ => ((ev a).e ρ μ).bind fun x μ1 => ((ev b).e ρ μ1).bind fun y μ2 => match listItems μ2 x, listItems μ2 y with
    | some J, some J' => .ok ⟨zipL J.ds J'.ds, J.lv ++ J'.lv⟩ μ2
    | _, _ => .bad
@[simp] noncomputable def evTs : Es → Slots → Store → Res Bool
  | .nil => fun _ μ => .ok true μ
  | .cons e .nil => (ev e).t
  | .cons _ (.cons _ _) => fun _ _ => .bad
end

/-! ### statements -/
inductive Fl where
  | nx (ρ : Slots) | bk (ρ : Slots) | ct (ρ : Slots) | rt (d : D)

noncomputable def whileN (c : Slots → Store → Res Bool) (b : Slots → Store → Res Fl) : Nat → Slots → Store → Option (Res Fl)
  | 0, _, _ => none
  | n + 1, ρ, μ => match c ρ μ with
    | .ok true μ1 => match b ρ μ1 with
      | .ok (.nx ρ') μ2 => whileN c b n ρ' μ2
      | .ok (.ct ρ') μ2 => whileN c b n ρ' μ2
      | .ok (.bk ρ') μ2 => some (.ok (.nx ρ') μ2)
      | .ok (.rt d) μ2 => some (.ok (.rt d) μ2)
      | .exc e μ2 => some (.exc e μ2)
      | .bad => some .bad
    | .ok false μ1 => some (.ok (.nx ρ) μ1)
    | .exc e μ1 => some (.exc e μ1)
    | .bad => some .bad
noncomputable def whileS (c : Slots → Store → Res Bool) (b : Slots → Store → Res Fl) (ρ : Slots) (μ : Store) : Res Fl :=
  if h : ∃ n r, whileN c b n ρ μ = some r then h.choose_spec.choose else .bad

noncomputable def forS (tg : Tn) (b : Slots → Store → Res Fl) (lv : List (Nat × List D)) : List D → Slots → Store → Res Fl
  | [], ρ, μ => if lvOk lv μ then .ok (.nx ρ) μ else .bad
  | d :: ds, ρ, μ => if lvOk lv μ then
      match bindT tg d ρ with
      | none => .bad
      | some ρ' => match b ρ' μ with
        | .ok (.nx ρ2) μ2 => forS tg b lv ds ρ2 μ2
        | .ok (.ct ρ2) μ2 => forS tg b lv ds ρ2 μ2
        | .ok (.bk ρ2) μ2 => .ok (.nx ρ2) μ2
        | .ok (.rt d) μ2 => .ok (.rt d) μ2
        | .exc e μ2 => .exc e μ2
        | .bad => .bad
    else .bad

/-- values laid down at names, from the left -/
@[simp] def layAll : List (Nat × Md) → List D → Slots → Store → Res Slots
  | [], [], ρ, μ => .ok ρ μ
  | (i, m) :: ts, d :: ds, ρ, μ => if i < ρ.length then (layD m d μ).bind fun y μ1 => layAll ts ds (ρ.set i (some y)) μ1 else .bad
  | _, _, _, _ => .bad

def Res.fl (r : Res Slots) : Res Fl := r.bind fun ρ μ => .ok (.nx ρ) μ

/-- the item that x[i] op= e reads: of a cell, not from behind -/
def augG (μ : Store) (o i : D) : Res D := match cellD μ o, i with
  | some (_, ys), .int i => if (small62 i && decide (0 ≤ i)) = true then match ys[i.toNat]? with
      | some y => .ok y μ
      | none => .bad
    else .bad
  | _, _ => .bad
mutual
@[simp] noncomputable def exS : S → Slots → Store → Res Fl
  | .asg t m e => fun ρ μ => ((ev e).e ρ μ).bind fun x μ1 => match t with
    | .nm i => if i < ρ.length then (layD m x μ1).bind fun y μ2 => .ok (.nx (ρ.set i (some y))) μ2 else .bad
    | .tp is => match m with
      | .deep => (layD .deep x μ1).bind fun y μ2 => match y with
        | .tup ds => Res.ofO ((bindAll is ds ρ).map .nx) μ2
        | _ => .bad
      | _ => match x with
        | .tup ds => Res.ofO ((bindAll is ds ρ).map .nx) μ1
        | _ => .bad
  | .par ts es => fun ρ μ => (evs es ρ μ).bind fun xs μ1 => (layAll ts xs ρ μ1).fl
  | .set o i e => fun ρ μ => ((ev e).e ρ μ).bind fun x μ1 => ((ev o).e ρ μ1).bind fun y μ2 => ((ev i).e ρ μ2).bind fun z μ3 => (setD μ3 y z x).bind fun _ μ4 => .ok (.nx ρ) μ4
  | .aug i o e => fun ρ μ => match ρ[i]? with
    | some (some (.int k)) => ((ev e).e ρ μ).bind fun y μ1 => match y with
      | .int j => (binD o (.int k) (.int j) μ1).bind fun z μ2 => .ok (.nx (ρ.set i (some z))) μ2
      | _ => .bad
    | _ => .bad
  | .set2 o i o' i' e => fun ρ μ => ((ev e).e ρ μ).bind fun x μ1 => match x with
    | .tup [a, b] => ((ev o).e ρ μ1).bind fun y μ2 => ((ev i).e ρ μ2).bind fun z μ3 => (setD μ3 y z a).bind fun _ μ4 => ((ev o').e ρ μ4).bind fun y' μ5 => ((ev i').e ρ μ5).bind fun z' μ6 => (setD μ6 y' z' b).bind fun _ μ7 => .ok (.nx ρ) μ7
    | _ => .bad
  | .augs o i op e => fun ρ μ => ((ev o).e ρ μ).bind fun y μ1 => ((ev i).e ρ μ1).bind fun z μ2 => (augG μ2 y z).bind fun k μ3 => ((ev e).e ρ μ3).bind fun j μ4 => match k, j with
    | .int k, .int j => (binD op (.int k) (.int j) μ4).bind fun x μ5 => (setD μ5 y z x).bind fun _ μ6 => .ok (.nx ρ) μ6
    | _, _ => .bad
  | .ex e => fun ρ μ => ((ev e).e ρ μ).bind fun _ μ1 => .ok (.nx ρ) μ1
  | .ifs c a b => fun ρ μ => ((ev c).t ρ μ).bind fun t μ1 => if t = true then exSs a ρ μ1 else exSs b ρ μ1
  | .whl c b => fun ρ μ => whileS (ev c).t (exSs b) ρ μ
  | .frs t it b => fun ρ μ => (evI it ρ μ).bind fun J μ1 => forS t (exSs b) J.lv J.ds ρ μ1
  | .ret e => fun ρ μ => ((ev e).e ρ μ).bind fun x μ1 => .ok (.rt x) μ1
  | .retN => fun _ μ => .ok (.rt .non) μ
  | .brk => fun ρ μ => .ok (.bk ρ) μ
  | .cnt => fun ρ μ => .ok (.ct ρ) μ
  | .pas => fun ρ μ => .ok (.nx ρ) μ
  | .rais x _ => fun _ μ => .exc x μ
  | .tryx b _ cs ns h => fun ρ μ => match exSs b ρ μ with
    | .exc c μ1 => if c ∈ cs then exS h ρ μ1 else if c ∈ ns then .exc c μ1 else .bad
    | r => r
  | .never => fun _ _ => .bad
  | .fz i => fun ρ μ => match ρ[i]? with
    | some (some (.ptr k)) => match μ[k]? with
      | some (.lst xs) => .ok (.nx (ρ.set i (some (.lst xs)))) (μ.set k .dead)
      | _ => .bad
    | _ => .bad
@[simp] noncomputable def exSs : Ss → Slots → Store → Res Fl
  | .nil => fun ρ μ => .ok (.nx ρ) μ
  | .cons s ss => fun ρ μ => (exS s ρ μ).bind fun f μ1 => match f with
    | .nx ρ' => exSs ss ρ' μ1
    | f => .ok f μ1
end

/-! ### a def -/
structure Fn where
  ps : List Str
  N : List Str
  body : Ss
/-- a tuple's own lists, handed back with it -/
def pullT (n : Nat) (μ : Store) : List Nat → List D → Option (List D × List Nat)
  | seen, [] => some ([], seen)
  | seen, x :: xs => match x with
    | .ptr j => if n ≤ j ∧ j ∉ seen then match μ[j]? with
        | some (.lst ys) => if noPtrL n ys = true then (pullT n μ (j :: seen) xs).map (fun r => (D.new ys :: r.1, r.2)) else none
        | _ => none
      else none
    | x => if noPtr n x = true then (pullT n μ seen xs).map (fun r => (x :: r.1, r.2)) else none
/-- a list's own lists, handed back with it: each cell once -/
def pullL (n : Nat) (μ : Store) : List Nat → List D → Option (List D)
  | _, [] => some []
  | seen, x :: xs => match x with
    | .ptr j => if n ≤ j ∧ j ∉ seen then match μ[j]? with
        | some (.lst ys) => if noPtrL n ys = true then (pullL n μ (j :: seen) xs).map (D.new ys :: ·) else none
        | _ => none
      else none
    | .tup zs => match pullT n μ seen zs with
      | some (us, seen') => (pullL n μ seen' xs).map (D.tup us :: ·)
      | none => none
    | x => if noPtr n x = true then (pullL n μ seen xs).map (x :: ·) else none
/-- what a def hands back, its own cells left behind -/
@[simp] def lowOk (n : Nat) (μ : Store) : Bool := (μ.take n).all (cellIn n)
@[simp] def exitD (n : Nat) (d : D) (μ : Store) : Res D :=
  if lowOk n μ = true then
    if noPtr n d = true then .ok d (μ.take n)
    else match d with
      | .ptr k => match μ[k]? with
        | some (.lst xs) => if noPtrL n xs = true then .ok (.new xs) (μ.take n) else match pullL n μ [k] xs with
          | some ys => .ok (.new ys) (μ.take n)
          | none => .bad
        | _ => .bad
      | .tup zs => match pullT n μ [] (frzL zs) with
        | some r => .ok (.tup r.1) (μ.take n)
        | none => .bad
      | _ => .bad
  else .bad
noncomputable def runF (F : Fn) (args : List D) (μ : Store) : Res D :=
  if args.length = F.ps.length then
    match exSs F.body (args.map some ++ List.replicate (F.N.length - F.ps.length) none) μ with
    | .ok (.rt d) μ1 => exitD μ.length d μ1
    | .ok (.nx _) μ1 => exitD μ.length .non μ1
    | .ok _ _ => .bad
    | .exc c μ1 => if lowOk μ.length μ1 = true then .exc c (μ1.take μ.length) else .bad
    | .bad => .bad
  else .bad
noncomputable abbrev denF (F : Fn) : Den := ⟨F.ps, runF F⟩
end
end Pyf

/-! Pyf, part C: how trees lie in the heap. -/
namespace Pyf
open PySem PySem.Spec PyProof.Rows L2
open PySem (Str)

mutual
/-- the value v is the tree d: F what nobody changes, as the cells, fp what is held by v alone -/
inductive Rep (K : PySem.W.Frag) (F H : Hp) (as : List Addr) : V → D → List Addr → Prop where
  | non : Rep K F H as .non .non []
  | bl (b : Bool) : Rep K F H as (.bl b) (.bl b) []
  | int (i : Int) : Rep K F H as (.int i) (.int i) []
  | str (s : Str) : Rep K F H as (.str s) (.str s) []
  | scr {a : Addr} (ns : List Int) : SqL K F a (ns.map V.int) → Rep K F H as (.ref a) (.scr ns) []
  | lst {a : Addr} {vs : List V} {ds : List D} : F a = some (.lst vs) → RepL K F H as vs ds [] → Rep K F H as (.ref a) (.lst ds) []
  | tup {a : Addr} {vs : List V} {ds : List D} {fp : List Addr} : F a = some (.tup vs) → RepL K F H as vs ds fp → Rep K F H as (.ref a) (.tup ds) fp
  | ptr {a : Addr} {k : Nat} : as[k]? = some a → Rep K F H as (.ref a) (.ptr k) []
  | new {a : Addr} {vs : List V} {ds : List D} {fp : List Addr} : F a = none → a ∉ as → H a = some (.lst vs) → RepL K F H as vs ds fp → Rep K F H as (.ref a) (.new ds) (a :: fp)
  | ntup {a : Addr} {vs : List V} {ds : List D} {fp : List Addr} : F a = none → a ∉ as → H a = some (.tup vs) → RepL K F H as vs ds fp → Rep K F H as (.ref a) (.tup ds) (a :: fp)
inductive RepL (K : PySem.W.Frag) (F H : Hp) (as : List Addr) : List V → List D → List Addr → Prop where
  | nil : RepL K F H as [] [] []
  | cons {v : V} {vs : List V} {d : D} {ds : List D} {fp fps : List Addr} : Rep K F H as v d fp → RepL K F H as vs ds fps → RepL K F H as (v :: vs) (d :: ds) (fp ++ fps)
end

structure Gh where
  F : Hp
  as : List Addr

theorem sqL_mono {K : PySem.W.Frag} {F F' : Hp} {a : Addr} {vs : List V} (h : Same F F') (q : SqL K F a vs) : SqL K F' a vs := h.seq q

/-- what a step may have done -/
structure Ext (G : Gh) (H : Hp) (G' : Gh) (H' : Hp) : Prop where
  f : Same G.F G'.F
  as : ∃ l, G'.as = G.as ++ l ∧ ∀ a ∈ l, H a = none
  fr : ∀ b o, H b = some o → b ∉ G.as → H' b = some o
  nf : ∀ b o, H b = some o → G.F b = none → b ∉ G.as → G'.F b = none
  tr : ∀ b o, H b = some o → ∃ o', H' b = some o'

theorem Ext.refl (G : Gh) (H : Hp) : Ext G H G H := ⟨Same.refl _, ⟨[], by simp, by simp⟩, fun _ _ h _ => h, fun _ _ _ h _ => h, fun _ o h => ⟨o, h⟩⟩
theorem Ext.none {G : Gh} {H : Hp} {G' : Gh} {H' : Hp} (x : Ext G H G' H') {b : Addr} (h : H' b = Option.none) : H b = Option.none := by
  cases q : H b with
  | none => rfl
  | some o =>
    obtain ⟨o', e⟩ := x.tr b o q
    rw [h] at e; cases e
theorem Ext.trans {G : Gh} {H : Hp} {G1 : Gh} {H1 : Hp} {G2 : Gh} {H2 : Hp} (x : Ext G H G1 H1) (y : Ext G1 H1 G2 H2) : Ext G H G2 H2 := by
  obtain ⟨l, el, hl⟩ := x.as
  obtain ⟨l', el', hl'⟩ := y.as
  have nin : ∀ b o, H b = some o → b ∉ G.as → b ∉ G1.as := fun b o h hn hm => by
    rw [el] at hm
    rcases List.mem_append.mp hm with z | z
    · exact hn z
    · have := hl b z
      rw [h] at this; cases this
  refine ⟨x.f.trans y.f, ⟨l ++ l', by rw [el', el, List.append_assoc], fun a ha => ?_⟩, fun b o h hn => ?_, fun b o h hf hn => ?_, fun b o h => ?_⟩
  · rcases List.mem_append.mp ha with z | z
    · exact hl a z
    · exact x.none (hl' a z)
  · exact y.fr b o (x.fr b o h hn) (nin b o h hn)
  · exact y.nf b o (x.fr b o h hn) (x.nf b o h hf hn) (nin b o h hn)
  · obtain ⟨o', e⟩ := x.tr b o h
    exact y.tr b o' e

theorem get_append {α : Type} {l l' : List α} {k : Nat} {a : α} (h : l[k]? = some a) : (l ++ l')[k]? = some a := by
  rw [List.getElem?_append_left (List.getElem?_eq_some_iff.mp h).1]; exact h

mutual
theorem Rep.mono {K : PySem.W.Frag} {G : Gh} {H : Hp} {G' : Gh} {H' : Hp} (x : Ext G H G' H') : ∀ {v : V} {d : D} {fp : List Addr}, Rep K G.F H G.as v d fp → Rep K G'.F H' G'.as v d fp
  | _, _, _, .non => .non
  | _, _, _, .bl b => .bl b
  | _, _, _, .int i => .int i
  | _, _, _, .str s => .str s
  | _, _, _, .scr ns h => .scr ns (sqL_mono x.f h)
  | _, _, _, .lst h r => .lst (x.f _ _ h) (RepL.mono x r)
  | _, _, _, .tup h r => .tup (x.f _ _ h) (RepL.mono x r)
  | _, _, _, .ptr h => .ptr (by obtain ⟨l, e, _⟩ := x.as; rw [e]; exact get_append h)
  | _, _, _, .new hf ha h r => .new (x.nf _ _ h hf ha) (by
      obtain ⟨l, e, hl⟩ := x.as
      rw [e]; intro hm
      rcases List.mem_append.mp hm with z | z
      · exact ha z
      · rw [hl _ z] at h; cases h) (x.fr _ _ h ha) (RepL.mono x r)
  | _, _, _, .ntup hf ha h r => .ntup (x.nf _ _ h hf ha) (by
      obtain ⟨l, e, hl⟩ := x.as
      rw [e]; intro hm
      rcases List.mem_append.mp hm with z | z
      · exact ha z
      · rw [hl _ z] at h; cases h) (x.fr _ _ h ha) (RepL.mono x r)
theorem RepL.mono {K : PySem.W.Frag} {G : Gh} {H : Hp} {G' : Gh} {H' : Hp} (x : Ext G H G' H') : ∀ {vs : List V} {ds : List D} {fp : List Addr}, RepL K G.F H G.as vs ds fp → RepL K G'.F H' G'.as vs ds fp
  | _, _, _, .nil => .nil
  | _, _, _, .cons r t => .cons (Rep.mono x r) (RepL.mono x t)
end

/-- settled trees lean on F and the cells alone -/
theorem Rep.fp_tup {K : PySem.W.Frag} {F H : Hp} {as : List Addr} {v : V} {xs : List D} (r : Rep K F H as v (.tup xs) []) : ∃ a vs, v = .ref a ∧ F a = some (.tup vs) ∧ RepL K F H as vs xs [] := by
  cases r with
  | tup h r => exact ⟨_, _, rfl, h, r⟩
theorem RepL.nil_of {K : PySem.W.Frag} {F H : Hp} {as : List Addr} {v : V} {vs : List V} {d : D} {ds : List D} (r : RepL K F H as (v :: vs) (d :: ds) []) : Rep K F H as v d [] ∧ RepL K F H as vs ds [] := by
  generalize hfp : ([] : List Addr) = f at r
  cases r with
  | cons r t =>
    obtain ⟨h1, h2⟩ := List.append_eq_nil_iff.mp hfp.symm
    subst h1; subst h2
    exact ⟨r, t⟩
mutual
theorem Rep.set {K : PySem.W.Frag} {F H F' H' : Hp} {as as' : List Addr} (hf : Same F F') (ha : ∀ (k : Nat) (a : Addr), as[k]? = some a → as'[k]? = some a) : ∀ {d : D} {v : V} {fp : List Addr}, Rep K F H as v d fp → fp = [] → Rep K F' H' as' v d []
  | _, _, _, .non, _ => .non
  | _, _, _, .bl b, _ => .bl b
  | _, _, _, .int i, _ => .int i
  | _, _, _, .str s, _ => .str s
  | _, _, _, .scr ns h, _ => .scr ns (sqL_mono hf h)
  | _, _, _, .lst h r, _ => .lst (hf _ _ h) (RepL.set hf ha r rfl)
  | _, _, _, .tup h r, e => .tup (hf _ _ h) (RepL.set hf ha r e)
  | _, _, _, .ptr h, _ => .ptr (ha _ _ h)
theorem RepL.set {K : PySem.W.Frag} {F H F' H' : Hp} {as as' : List Addr} (hf : Same F F') (ha : ∀ (k : Nat) (a : Addr), as[k]? = some a → as'[k]? = some a) : ∀ {ds : List D} {vs : List V} {fp : List Addr}, RepL K F H as vs ds fp → fp = [] → RepL K F' H' as' vs ds []
  | _, _, _, .nil, _ => .nil
  | _, _, _, .cons (fp := fp) (fps := fps) r t, e => by
    obtain ⟨h1, h2⟩ := List.append_eq_nil_iff.mp e
    exact RepL.cons (fp := []) (fps := []) (Rep.set hf ha r h1) (RepL.set hf ha t h2)
end

mutual
theorem Rep.off {K : PySem.W.Frag} {F H F' : Hp} {as as' : List Addr} (hf : Same F F') (ha : ∀ (k : Nat) (a : Addr), as[k]? = some a → as'[k]? = some a) : ∀ {d : D} {v : V} {fp : List Addr}, Rep K F H as v d fp → (∀ b ∈ fp, F' b = none ∧ b ∉ as') → Rep K F' H as' v d fp
  | _, _, _, .non, _ => .non
  | _, _, _, .bl b, _ => .bl b
  | _, _, _, .int i, _ => .int i
  | _, _, _, .str s, _ => .str s
  | _, _, _, .scr ns h, _ => .scr ns (sqL_mono hf h)
  | _, _, _, .lst h r, _ => .lst (hf _ _ h) (RepL.set hf ha r rfl)
  | _, _, _, .tup h r, q => .tup (hf _ _ h) (RepL.off hf ha r q)
  | _, _, _, .ptr h, _ => .ptr (ha _ _ h)
  | _, _, _, .new _ _ h r, q => .new (q _ List.mem_cons_self).1 (q _ List.mem_cons_self).2 h (RepL.off hf ha r fun b hb => q b (List.mem_cons_of_mem _ hb))
  | _, _, _, .ntup _ _ h r, q => .ntup (q _ List.mem_cons_self).1 (q _ List.mem_cons_self).2 h (RepL.off hf ha r fun b hb => q b (List.mem_cons_of_mem _ hb))
theorem RepL.off {K : PySem.W.Frag} {F H F' : Hp} {as as' : List Addr} (hf : Same F F') (ha : ∀ (k : Nat) (a : Addr), as[k]? = some a → as'[k]? = some a) : ∀ {ds : List D} {vs : List V} {fp : List Addr}, RepL K F H as vs ds fp → (∀ b ∈ fp, F' b = none ∧ b ∉ as') → RepL K F' H as' vs ds fp
  | _, _, _, .nil, _ => .nil
  | _, _, _, .cons r t, q => .cons (Rep.off hf ha r fun b hb => q b (List.mem_append_left _ hb)) (RepL.off hf ha t fun b hb => q b (List.mem_append_right _ hb))
end
/-- F with all of S frozen as it stands -/
def froz (F H : Hp) (S : List Addr) : Hp := fun b => if b ∈ S then H b else F b
theorem froz_in {F H : Hp} {S : List Addr} {b : Addr} (h : b ∈ S) : froz F H S b = H b := if_pos h
theorem froz_out {F H : Hp} {S : List Addr} {b : Addr} (h : b ∉ S) : froz F H S b = F b := if_neg h
theorem froz_same {F H : Hp} {S : List Addr} (h : ∀ b ∈ S, F b = none) : Same F (froz F H S) := fun b o e => by
  rw [froz_out fun hb => by rw [h b hb] at e; cases e]; exact e
theorem froz_le {F H : Hp} {S : List Addr} (h : Same F H) : Same (froz F H S) H := fun b o e => by
  by_cases hb : b ∈ S
  · rw [froz_in hb] at e; exact e
  · rw [froz_out hb] at e; exact h b o e

mutual
theorem Rep.frz {K : PySem.W.Frag} {F H : Hp} {as S : List Addr} (hS : ∀ b ∈ S, F b = none) : ∀ {v : V} {d : D} {fp : List Addr}, Rep K F H as v d fp → (∀ b ∈ fp, b ∈ S) → Rep K (froz F H S) H as v (frz d) []
  | _, _, _, .non, _ => .non
  | _, _, _, .bl b, _ => .bl b
  | _, _, _, .int i, _ => .int i
  | _, _, _, .str s, _ => .str s
  | _, _, _, .scr ns h, _ => .scr ns (sqL_mono (froz_same hS) h)
  | _, _, _, .lst h r, _ => .lst (froz_same hS _ _ h) (RepL.set (froz_same hS) (fun _ _ h => h) r rfl)
  | _, _, _, .tup h r, hs => .tup (froz_same hS _ _ h) (RepL.frz hS r hs)
  | _, _, _, .ptr h, _ => .ptr h
  | _, _, _, .new hf ha h r, hs => .lst (by rw [froz_in (hs _ List.mem_cons_self)]; exact h) (RepL.frz hS r fun b hb => hs b (List.mem_cons_of_mem _ hb))
  | _, _, _, .ntup hf ha h r, hs => .tup (by rw [froz_in (hs _ List.mem_cons_self)]; exact h) (RepL.frz hS r fun b hb => hs b (List.mem_cons_of_mem _ hb))
theorem RepL.frz {K : PySem.W.Frag} {F H : Hp} {as S : List Addr} (hS : ∀ b ∈ S, F b = none) : ∀ {vs : List V} {ds : List D} {fp : List Addr}, RepL K F H as vs ds fp → (∀ b ∈ fp, b ∈ S) → RepL K (froz F H S) H as vs (frzL ds) []
  | _, _, _, .nil, _ => .nil
  | _, _, _, .cons r t, hs => RepL.cons (fp := []) (fps := []) (Rep.frz hS r fun b hb => hs b (List.mem_append_left _ hb)) (RepL.frz hS t fun b hb => hs b (List.mem_append_right _ hb))
end
mutual
theorem Rep.out {K : PySem.W.Frag} {F H : Hp} {as : List Addr} : ∀ {v : V} {d : D} {fp : List Addr}, Rep K F H as v d fp → ∀ b ∈ fp, F b = none ∧ b ∉ as ∧ ∃ o, H b = some o
  | _, _, _, .non, b, hb => nomatch hb
  | _, _, _, .bl _, b, hb => nomatch hb
  | _, _, _, .int _, b, hb => nomatch hb
  | _, _, _, .str _, b, hb => nomatch hb
  | _, _, _, .lst _ _, b, hb => nomatch hb
  | _, _, _, .scr _ _, b, hb => nomatch hb
  | _, _, _, .tup _ r, b, hb => RepL.out r b hb
  | _, _, _, .ptr _, b, hb => nomatch hb
  | _, _, _, .new hf ha h r, b, hb => by
    rcases List.mem_cons.mp hb with rfl | hb
    · exact ⟨hf, ha, _, h⟩
    · exact RepL.out r b hb
  | _, _, _, .ntup hf ha h r, b, hb => by
    rcases List.mem_cons.mp hb with rfl | hb
    · exact ⟨hf, ha, _, h⟩
    · exact RepL.out r b hb
theorem RepL.out {K : PySem.W.Frag} {F H : Hp} {as : List Addr} : ∀ {vs : List V} {ds : List D} {fp : List Addr}, RepL K F H as vs ds fp → ∀ b ∈ fp, F b = none ∧ b ∉ as ∧ ∃ o, H b = some o
  | _, _, _, .nil, b, hb => nomatch hb
  | _, _, _, .cons r t, b, hb => by
    rcases List.mem_append.mp hb with hb | hb
    · exact Rep.out r b hb
    · exact RepL.out t b hb
end
mutual
theorem Rep.frz_eq {K : PySem.W.Frag} {F H : Hp} {as : List Addr} : ∀ {v : V} {d : D} {fp : List Addr}, Rep K F H as v d fp → fp = [] → Pyf.frz d = d
  | _, _, _, .non, _ => rfl
  | _, _, _, .bl _, _ => rfl
  | _, _, _, .int _, _ => rfl
  | _, _, _, .str _, _ => rfl
  | _, _, _, .lst _ _, _ => rfl
  | _, _, _, .scr _ _, _ => rfl
  | _, _, _, .tup _ r, e => by show D.tup (frzL _) = D.tup _; rw [RepL.frz_eq r e]
  | _, _, _, .ptr _, _ => rfl
theorem RepL.frz_eq {K : PySem.W.Frag} {F H : Hp} {as : List Addr} : ∀ {vs : List V} {ds : List D} {fp : List Addr}, RepL K F H as vs ds fp → fp = [] → frzL ds = ds
  | _, _, _, .nil, _ => rfl
  | _, _, _, .cons r t, e => by
    obtain ⟨h1, h2⟩ := List.append_eq_nil_iff.mp e
    show Pyf.frz _ :: frzL _ = _
    rw [Rep.frz_eq r h1, RepL.frz_eq t h2]
end

theorem RepL.length {K : PySem.W.Frag} {F H : Hp} {as : List Addr} : ∀ {vs : List V} {ds : List D} {fp : List Addr}, RepL K F H as vs ds fp → vs.length = ds.length
  | _, _, _, .nil => rfl
  | _, _, _, .cons r t => by simp only [List.length_cons]; rw [t.length]
theorem RepL.append {K : PySem.W.Frag} {F H : Hp} {as : List Addr} : ∀ {vs ws : List V} {ds es : List D} {fp fq : List Addr}, RepL K F H as vs ds fp → RepL K F H as ws es fq → RepL K F H as (vs ++ ws) (ds ++ es) (fp ++ fq)
  | _, _, _, _, _, _, .nil, s => s
  | _, _, _, _, _, _, .cons r t, s => by
    rw [List.append_assoc]
    exact .cons r (t.append s)
theorem RepL.get {K : PySem.W.Frag} {F H : Hp} {as : List Addr} : ∀ {vs : List V} {ds : List D} {fp : List Addr} {i : Nat} {d : D}, RepL K F H as vs ds fp → ds[i]? = some d → ∃ v fq, vs[i]? = some v ∧ Rep K F H as v d fq ∧ fq.Sublist fp
  | _, _, _, _, _, .nil, h => by simp at h
  | _, _, _, 0, _, .cons (fp := fp) r t, h => by
    have e := Option.some.inj h
    subst e
    exact ⟨_, fp, rfl, r, List.sublist_append_left _ _⟩
  | _, _, _, i + 1, d, .cons r t, h => by
    obtain ⟨v, fq, h1, h2, h3⟩ := t.get (i := i) (d := d) (by simpa using h)
    exact ⟨v, fq, by simpa using h1, h2, h3.trans (List.sublist_append_right _ _)⟩
theorem RepL.get0 {K : PySem.W.Frag} {F H : Hp} {as : List Addr} {vs : List V} {ds : List D} {i : Nat} {d : D} (r : RepL K F H as vs ds []) (h : ds[i]? = some d) : ∃ v, vs[i]? = some v ∧ Rep K F H as v d [] := by
  obtain ⟨v, fq, h1, h2, h3⟩ := r.get h
  have e := List.eq_nil_of_sublist_nil h3
  subst e
  exact ⟨v, h1, h2⟩
theorem RepL.get' {K : PySem.W.Frag} {F H : Hp} {as : List Addr} : ∀ {vs : List V} {ds : List D} {fp : List Addr} {i : Nat} {v : V}, RepL K F H as vs ds fp → vs[i]? = some v → ∃ d fq, ds[i]? = some d ∧ Rep K F H as v d fq ∧ fq.Sublist fp
  | _, _, _, _, _, .nil, h => by simp at h
  | _, _, _, 0, _, .cons (fp := fp) r t, h => by
    have e := Option.some.inj h
    subst e
    exact ⟨_, fp, rfl, r, List.sublist_append_left _ _⟩
  | _, _, _, i + 1, v, .cons r t, h => by
    obtain ⟨d, fq, h1, h2, h3⟩ := t.get' (i := i) (v := v) (by simpa using h)
    exact ⟨d, fq, by simpa using h1, h2, h3.trans (List.sublist_append_right _ _)⟩
theorem RepL.drop {K : PySem.W.Frag} {F H : Hp} {as : List Addr} : ∀ (n : Nat) {vs : List V} {ds : List D} {fp : List Addr}, RepL K F H as vs ds fp → ∃ fq, RepL K F H as (vs.drop n) (ds.drop n) fq ∧ fq.Sublist fp
  | 0, _, _, fp, r => ⟨fp, r, List.Sublist.refl _⟩
  | _ + 1, _, _, _, .nil => ⟨[], .nil, List.Sublist.refl _⟩
  | n + 1, _, _, _, .cons r t => by
    obtain ⟨fq, h1, h2⟩ := t.drop n
    exact ⟨fq, h1, h2.trans (List.sublist_append_right _ _)⟩
theorem RepL.take {K : PySem.W.Frag} {F H : Hp} {as : List Addr} : ∀ (n : Nat) {vs : List V} {ds : List D} {fp : List Addr}, RepL K F H as vs ds fp → ∃ fq, RepL K F H as (vs.take n) (ds.take n) fq ∧ fq.Sublist fp
  | 0, _, _, fp, r => ⟨[], .nil, List.nil_sublist _⟩
  | _ + 1, _, _, _, .nil => ⟨[], .nil, List.Sublist.refl _⟩
  | n + 1, _, _, _, .cons r t => by
    obtain ⟨fq, h1, h2⟩ := t.take n
    exact ⟨_, .cons r h1, List.Sublist.append (List.Sublist.refl _) h2⟩
theorem RepL.set0 {K : PySem.W.Frag} {F H : Hp} {as : List Addr} {v : V} {d : D} (q : Rep K F H as v d []) : ∀ {vs : List V} {ds : List D} {fp : List Addr} (i : Nat), RepL K F H as vs ds fp → fp = [] → RepL K F H as (vs.set i v) (ds.set i d) []
  | _, _, _, _, .nil, _ => .nil
  | _, _, _, 0, .cons r t, e => by
    obtain ⟨h1, h2⟩ := List.append_eq_nil_iff.mp e
    subst h2
    exact RepL.cons (fp := []) (fps := []) q t
  | _, _, _, i + 1, .cons r t, e => by
    obtain ⟨h1, h2⟩ := List.append_eq_nil_iff.mp e
    subst h1
    exact RepL.cons (fp := []) (fps := []) r (RepL.set0 q i t h2)
theorem RepL.replicate {K : PySem.W.Frag} {F H : Hp} {as : List Addr} {vs : List V} {ds : List D} (r : RepL K F H as vs ds []) : ∀ n : Nat, RepL K F H as (List.replicate n vs).flatten (List.replicate n ds).flatten []
  | 0 => .nil
  | n + 1 => by
    rw [List.replicate_succ, List.replicate_succ, List.flatten_cons, List.flatten_cons]
    exact r.append (RepL.replicate r n)
theorem RepL.erase0 {K : PySem.W.Frag} {F H : Hp} {as : List Addr} : ∀ {vs : List V} {ds : List D} {fp : List Addr} (i : Nat), RepL K F H as vs ds fp → fp = [] → RepL K F H as (vs.eraseIdx i) (ds.eraseIdx i) []
  | _, _, _, _, .nil, _ => by simp; exact .nil
  | _, _, _, 0, .cons r t, e => by
    obtain ⟨h1, h2⟩ := List.append_eq_nil_iff.mp e
    subst h2
    exact t
  | _, _, _, i + 1, .cons r t, e => by
    obtain ⟨h1, h2⟩ := List.append_eq_nil_iff.mp e
    subst h1
    exact RepL.cons (fp := []) (fps := []) r (RepL.erase0 i t h2)

/-! ### cells -/
structure Cells (K : PySem.W.Frag) (G : Gh) (μ : Store) (H : Hp) : Prop where
  same : Same G.F H
  len : G.as.length = μ.length
  nd : G.as.Nodup
  there : ∀ a ∈ G.as, ∃ o, H a = some o
  lst : ∀ (k : Nat) (a : Addr) (ds : List D), G.as[k]? = some a → μ[k]? = some (.lst ds) → G.F a = none ∧ ∃ vs, H a = some (.lst vs) ∧ RepL K G.F H G.as vs ds []

structure Rel (K : PySem.W.Frag) (G : Gh) (ρ : Slots) (μ : Store) (σ : L2.St) (H : Hp) : Prop where
  cells : Cells K G μ H
  len : ρ.length = σ.length
  env : ∀ (i : Nat) (d : D), ρ[i]? = some (some d) → ∃ v, σ[i]? = some (some v) ∧ Rep K G.F H G.as v d []

theorem Rel.ext {K : PySem.W.Frag} {G G' : Gh} {ρ : Slots} {μ μ' : Store} {σ : L2.St} {H H' : Hp} (r : Rel K G ρ μ σ H) (x : Ext G H G' H') (c : Cells K G' μ' H') : Rel K G' ρ μ' σ H' :=
  ⟨c, r.len, fun i d h => let ⟨v, h1, h2⟩ := r.env i d h; ⟨v, h1, h2.mono x⟩⟩
end Pyf

/-! Pyf, part D: the operations, by values. -/
namespace Pyf
open PySem PySem.Spec PyProof.Rows L2
open PySem (Str)

/-- where one stands: since G0, H0; the cells as told -/
structure Here (K : PySem.W.Frag) (G0 : Gh) (H0 : Hp) (G : Gh) (μ : Store) (H : Hp) : Prop where
  ext : Ext G0 H0 G H
  cells : Cells K G μ H
theorem Here.start {K : PySem.W.Frag} {G : Gh} {μ : Store} {H : Hp} (c : Cells K G μ H) : Here K G H G μ H := ⟨Ext.refl G H, c⟩
theorem Here.go {K : PySem.W.Frag} {G0 G G' : Gh} {H0 H H' : Hp} {μ μ' : Store} (h : Here K G0 H0 G μ H) (h' : Here K G H G' μ' H') : Here K G0 H0 G' μ' H' := ⟨h.ext.trans h'.ext, h'.cells⟩

/-- Q is to hold of the tree d, behind -/
def OkP (K : PySem.W.Frag) (G0 : Gh) (H0 : Hp) (μ : Store) (d : D) (Q : VK) : Prop :=
  ∀ (G : Gh) (H : Hp) (v : V) (fp : List Addr), Here K G0 H0 G μ H → Rep K G.F H G.as v d fp → fp.Nodup → (∀ a ∈ fp, H0 a = none) → Q v H
def OkPL (K : PySem.W.Frag) (G0 : Gh) (H0 : Hp) (μ : Store) (ds : List D) (Q : List V → Hp → Prop) : Prop :=
  ∀ (G : Gh) (H : Hp) (vs : List V) (fp : List Addr), Here K G0 H0 G μ H → RepL K G.F H G.as vs ds fp → fp.Nodup → (∀ a ∈ fp, H0 a = none) → Q vs H

section
variable {K : PySem.W.Frag} {G0 G : Gh} {H0 H : Hp} {μ : Store} {Q : VK} {d d1 d2 : D} {x y : V} {fp fp1 fp2 : List Addr} {xs ys : List D}

theorem OkP.now (q : OkP K G0 H0 μ d Q) (h : Here K G0 H0 G μ H) {v : V} (r : Rep K G.F H G.as v d []) : Q v H := q G H v [] h r List.nodup_nil (by simp)

theorem Cells.none (c : Cells K G μ H) {p : Addr} (hp : H p = Option.none) : G.F p = Option.none := by
  cases q : G.F p with
  | none => rfl
  | some o => rw [c.same _ _ q] at hp; cases hp
theorem Cells.nin (c : Cells K G μ H) {p : Addr} (hp : H p = Option.none) : p ∉ G.as := fun h => by
  obtain ⟨o, e⟩ := c.there p h
  rw [hp] at e; cases e
/-- a new object beside all that stands -/
theorem ext_new (G : Gh) {p : Addr} {o : HO} (hp : H p = Option.none) : Ext G H G (upd H p o) :=
  ⟨Same.refl _, ⟨[], by simp, by simp⟩, fun b ob h _ => by rw [upd_ne (ne_of_none h hp)]; exact h, fun b ob _ h _ => h, fun b ob h => ⟨ob, by rw [upd_ne (ne_of_none h hp)]; exact h⟩⟩
theorem Cells.new (c : Cells K G μ H) {p : Addr} {o : HO} (hp : H p = Option.none) : Cells K G μ (upd H p o) :=
  ⟨fun b ob h => by have := c.same _ _ h; rw [upd_ne (ne_of_none this hp)]; exact this, c.len, c.nd, fun a ha => by
    obtain ⟨ob, e⟩ := c.there a ha
    exact ⟨ob, by rw [upd_ne (ne_of_none e hp)]; exact e⟩, fun k a ds h1 h2 => by
    obtain ⟨hf, vs, hv, r⟩ := c.lst k a ds h1 h2
    exact ⟨hf, vs, by rw [upd_ne (ne_of_none hv hp)]; exact hv, r.mono (ext_new G hp)⟩⟩
theorem Here.new (h : Here K G0 H0 G μ H) {p : Addr} {o : HO} (hp : H p = Option.none) : Here K G0 H0 G μ (upd H p o) := ⟨h.ext.trans (ext_new G hp), h.cells.new hp⟩
theorem Cells.froz {S : List Addr} (c : Cells K G μ H) (hS : ∀ b ∈ S, G.F b = Option.none ∧ b ∉ G.as) : Cells K ⟨froz G.F H S, G.as⟩ μ H :=
  ⟨froz_le c.same, c.len, c.nd, c.there, fun k a ds h1 h2 => by
    obtain ⟨hf, vs, hv, r⟩ := c.lst k a ds h1 h2
    refine ⟨?_, vs, hv, r.set (froz_same fun b hb => (hS b hb).1) (fun _ _ z => z) rfl⟩
    show Pyf.froz G.F H S a = Option.none
    rw [froz_out fun hm => (hS a hm).2 (List.mem_of_getElem? h1)]
    exact hf⟩
/-- what is held alone is frozen -/
theorem Here.froz {S : List Addr} (h : Here K G0 H0 G μ H) (hS : ∀ b ∈ S, G.F b = Option.none ∧ b ∉ G.as ∧ H0 b = Option.none) : Here K G0 H0 ⟨froz G.F H S, G.as⟩ μ H :=
  ⟨⟨h.ext.f.trans (froz_same fun b hb => (hS b hb).1), h.ext.as, h.ext.fr, fun b o hb hf hn => by
      show Pyf.froz G.F H S b = Option.none
      rw [froz_out fun hm => by rw [(hS b hm).2.2] at hb; cases hb]
      exact h.ext.nf b o hb hf hn, h.ext.tr⟩, h.cells.froz fun b hb => ⟨(hS b hb).1, (hS b hb).2.1⟩⟩
/-- .. a value held alone -/
theorem Here.settle (h : Here K G0 H0 G μ H) {v : V} (r : Rep K G.F H G.as v d fp) (hb : ∀ a ∈ fp, H0 a = Option.none) : ∃ G', Here K G0 H0 G' μ H ∧ Rep K G'.F H G'.as v (frz d) [] ∧ G'.as = G.as :=
  ⟨⟨Pyf.froz G.F H fp, G.as⟩, h.froz fun b z => ⟨(r.out b z).1, (r.out b z).2.1, hb b z⟩, Rep.frz (fun b z => (r.out b z).1) r fun b z => z, rfl⟩
theorem Here.settleL (h : Here K G0 H0 G μ H) {vs : List V} (r : RepL K G.F H G.as vs xs fp) (hb : ∀ a ∈ fp, H0 a = Option.none) : ∃ G', Here K G0 H0 G' μ H ∧ RepL K G'.F H G'.as vs (frzL xs) [] ∧ G'.as = G.as :=
  ⟨⟨Pyf.froz G.F H fp, G.as⟩, h.froz fun b z => ⟨(r.out b z).1, (r.out b z).2.1, hb b z⟩, RepL.frz (fun b z => (r.out b z).1) r fun b z => z, rfl⟩

theorem OkP.list (q : OkP K G0 H0 μ (.new xs) Q) (h : Here K G0 H0 G μ H) {vs : List V} (r : RepL K G.F H G.as vs xs fp) (n : fp.Nodup) (hb : ∀ a ∈ fp, H0 a = none) {p : Addr} (hp : H p = none) : Q (.ref p) (upd H p (.lst vs)) := by
  refine q G _ _ (p :: fp) (h.new hp) (.new (h.cells.none hp) (h.cells.nin hp) upd_same (r.mono (ext_new G hp))) (List.nodup_cons.mpr ⟨fun h => ?_, n⟩) fun a ha => ?_
  · obtain ⟨_, _, o, e⟩ := r.out p h
    rw [hp] at e; cases e
  · rcases List.mem_cons.mp ha with rfl | ha
    · exact h.ext.none hp
    · exact hb a ha
theorem OkP.tuple (q : OkP K G0 H0 μ (.tup xs) Q) (h : Here K G0 H0 G μ H) {vs : List V} (r : RepL K G.F H G.as vs xs fp) (n : fp.Nodup) (hb : ∀ a ∈ fp, H0 a = none) {p : Addr} (hp : H p = none) : Q (.ref p) (upd H p (.tup vs)) := by
  refine q G _ _ (p :: fp) (h.new hp) (.ntup (h.cells.none hp) (h.cells.nin hp) upd_same (r.mono (ext_new G hp))) (List.nodup_cons.mpr ⟨fun h => ?_, n⟩) fun a ha => ?_
  · obtain ⟨_, _, o, e⟩ := r.out p h
    rw [hp] at e; cases e
  · rcases List.mem_cons.mp ha with rfl | ha
    · exact h.ext.none hp
    · exact hb a ha

/-! ### lists and tuples that are read -/
theorem asJ_at (c : Cells K G μ H) (r : Rep K G.F H G.as x d fp) (e : asJ μ d = some xs) : ∃ a vs fq, x = .ref a ∧ H a = some (.lst vs) ∧ RepL K G.F H G.as vs xs fq ∧ fq.Sublist fp := by
  cases r with
  | lst h r =>
    cases e
    exact ⟨_, _, [], rfl, c.same _ _ h, r, List.Sublist.refl _⟩
  | new hf ha h r =>
    cases e
    exact ⟨_, _, _, rfl, h, r, List.sublist_cons_self _ _⟩
  | ptr h =>
    rename_i a k
    simp only [asJ] at e
    split at e
    · rename_i zs hz
      cases e
      obtain ⟨_, vs, hv, rr⟩ := c.lst k a _ h hz
      exact ⟨_, _, [], rfl, hv, rr, List.Sublist.refl _⟩
    · cases e
  | _ => cases e
theorem rep_ints {F : Hp} {as : List Addr} : ∀ ns : List Int, RepL K F H as (ns.map V.int) (ns.map D.int) []
  | [] => .nil
  | n :: ns => RepL.cons (fp := []) (fps := []) (.int n) (rep_ints ns)
theorem asL_at (c : Cells K G μ H) (r : Rep K G.F H G.as x d fp) (e : asL μ d = some xs) : ∃ a vs fq, x = .ref a ∧ SqL K H a vs ∧ RepL K G.F H G.as vs xs fq ∧ fq.Sublist fp := by
  cases r with
  | scr ns h =>
    cases e
    exact ⟨_, _, [], rfl, sqL_mono c.same h, rep_ints ns, List.Sublist.refl _⟩
  | lst h r =>
    cases e
    exact ⟨_, _, [], rfl, SqL.of (c.same _ _ h), r, List.Sublist.refl _⟩
  | new hf ha h r =>
    cases e
    exact ⟨_, _, _, rfl, SqL.of h, r, List.sublist_cons_self _ _⟩
  | ptr h =>
    rename_i a k
    simp only [asL] at e
    split at e
    · rename_i zs hz
      cases e
      obtain ⟨_, vs, hv, rr⟩ := c.lst k a _ h hz
      exact ⟨_, _, [], rfl, SqL.of hv, rr, List.Sublist.refl _⟩
    · cases e
  | _ => cases e
theorem asT_at (c : Cells K G μ H) (r : Rep K G.F H G.as x (.tup xs) fp) : ∃ a vs fq, x = .ref a ∧ SqT K H a vs ∧ RepL K G.F H G.as vs xs fq ∧ fq.Sublist fp := by
  cases r with
  | tup h r => exact ⟨_, _, _, rfl, SqT.of (c.same _ _ h), r, List.Sublist.refl _⟩
  | ntup hf ha h r => exact ⟨_, _, _, rfl, SqT.of h, r, List.sublist_cons_self _ _⟩
theorem asQ_at (c : Cells K G μ H) (r : Rep K G.F H G.as x d fp) (e : asQ μ d = some xs) : ∃ a vs fq, x = .ref a ∧ (SqL K H a vs ∨ SqT K H a vs) ∧ RepL K G.F H G.as vs xs fq ∧ fq.Sublist fp := by
  cases d with
  | tup zs =>
    cases e
    obtain ⟨a, vs, fq, h1, h2, h3⟩ := asT_at c r
    exact ⟨a, vs, fq, h1, .inr h2, h3⟩
  | _ =>
    obtain ⟨a, vs, fq, h1, h2, h3⟩ := asL_at c r e
    exact ⟨a, vs, fq, h1, .inl h2, h3⟩
theorem intsOf_at {F : Hp} {as : List Addr} : ∀ {xs : List D} {vs : List V} {ns : List Int} {fp : List Addr}, RepL K F H as vs xs fp → intsOf xs = some ns → vs = ns.map V.int
  | _, _, ns, _, .nil, e => by cases e; rfl
  | _, _, ns, _, .cons (d := d) r t, e => by
    cases r with
    | int i =>
      simp only [intsOf, Option.map_eq_some_iff] at e
      obtain ⟨ms, h1, rfl⟩ := e
      rw [intsOf_at t h1]; rfl
    | _ => cases e
theorem boolsOf_at {F : Hp} {as : List Addr} : ∀ {xs : List D} {vs : List V} {ns : List Bool} {fp : List Addr}, RepL K F H as vs xs fp → boolsOf xs = some ns → vs = ns.map V.bl
  | _, _, ns, _, .nil, e => by cases e; rfl
  | _, _, ns, _, .cons (d := d) r t, e => by
    cases r with
    | bl i =>
      simp only [boolsOf, Option.map_eq_some_iff] at e
      obtain ⟨ms, h1, rfl⟩ := e
      rw [boolsOf_at t h1]; rfl
    | _ => cases e
end

theorem ok_bad {α : Type} {p : Prop} [Decidable p] {r : Res α} {a : α} {μ : Store} (e : (if p then r else .bad) = .ok a μ) : p ∧ r = .ok a μ := by
  by_cases h : p
  · rw [if_pos h] at e; exact ⟨h, e⟩
  · rw [if_neg h] at e; cases e

/-- two values, told as trees, under a function of trees -/
def rV (K : PySem.W.Frag) (f : D → D → Store → Res D) : R2 := fun x y H Q => ∃ (G0 : Gh) (H0 : Hp) (G : Gh) (μ : Store) (d1 d2 : D) (fp1 fp2 : List Addr),
  Here K G0 H0 G μ H ∧ Rep K G.F H G.as x d1 fp1 ∧ Rep K G.F H G.as y d2 fp2 ∧ (fp1 ++ fp2).Nodup ∧ (∀ a ∈ fp1 ++ fp2, H0 a = none) ∧ ∃ d μ', f d1 d2 μ = .ok d μ' ∧ OkP K G0 H0 μ' d Q

section
variable {X : Cx}
theorem two_ints {K : PySem.W.Frag} {F H : Hp} {as fp1 fp2 : List Addr} {x y : V} {i j : Int} (r1 : Rep K F H as x (.int i) fp1) (r2 : Rep K F H as y (.int j) fp2) : x = .int i ∧ y = .int j := by
  cases r1; cases r2; exact ⟨rfl, rfl⟩
variable {pins : List (Addr × Obj)} {s : Shared} {σ : L2.St} {H H0 : Hp} {x y : V} {v u : Value} {Q : VK} {G0 G : Gh} {μ μ' : Store} {d1 d2 d : D} {fp1 fp2 : List Addr}

theorem cat_any (I : Inv X pins σ H s) (rx : RelV x v) (ry : RelV y u)
    (h : Here X.K G0 H0 G μ H) (r1 : Rep X.K G.F H G.as x d1 fp1) (r2 : Rep X.K G.F H G.as y d2 fp2) (nd : (fp1 ++ fp2).Nodup) (hB : ∀ a ∈ fp1 ++ fp2, H0 a = none) (e : catL μ d1 d2 = .ok d μ') (q : OkP X.K G0 H0 μ' d Q) :
    wpAny (model X.prog X.w) X.A (binaryOp .Add v u) (EP X pins σ Q) X.xe s := by
  unfold catL at e
  split at e
  · rename_i xs ys e1 e2
    obtain ⟨hl, e⟩ := ok_bad e
    cases e
    obtain ⟨a, vs, fq1, rfl, h1, t1, s1⟩ := asJ_at h.cells r1 e1
    obtain ⟨b, ws, fq2, rfl, h2, t2, s2⟩ := asJ_at h.cells r2 e2
    have sub : (fq1 ++ fq2).Sublist (fp1 ++ fp2) := s1.append s2
    exact op_cat pins s σ H _ _ v u Q I rx ry ⟨a, b, vs, ws, rfl, rfl, h1, h2, by rw [t1.length, t2.length]; exact hl, fun p hp => q.list h (t1.append t2) (nd.sublist sub) (fun a ha => hB a (sub.subset ha)) hp⟩
  · cases e

theorem opV_add : OpR X (binaryOp .Add) (rV X.K (binD .add)) := by
  intro pins s σ H x y v u Q I rx ry ⟨G0, H0, G, μ, d1, d2, fp1, fp2, h, r1, r2, nd, hB, d, μ', e, q⟩
  simp only [binD] at e
  cases d1 with
  | int i =>
    cases d2 with
    | int j =>
      cases e
      obtain ⟨rfl, rfl⟩ := two_ints r1 r2
      exact op_add pins s σ H _ _ v u Q I rx ry ⟨i, j, rfl, rfl, q.now h (.int _)⟩
    | _ => cases e
  | str i =>
    cases d2 with
    | str j =>
      simp only at e
      obtain ⟨hl, e⟩ := ok_bad e
      cases e
      cases r1; cases r2
      exact op_add_str pins s σ H _ _ v u Q I rx ry ⟨i, j, rfl, rfl, hl, q.now h (.str _)⟩
    | _ => cases e
  | _ => exact cat_any I rx ry h r1 r2 nd hB e q

theorem opV_sub : OpR X (binaryOp .Sub) (rV X.K (binD .sub)) := by
  intro pins s σ H x y v u Q I rx ry ⟨G0, H0, G, μ, d1, d2, fp1, fp2, h, r1, r2, nd, hB, d, μ', e, q⟩
  cases d1 with
  | int i =>
    cases d2 with
    | int j =>
      cases e
      obtain ⟨rfl, rfl⟩ := two_ints r1 r2
      exact op_sub pins s σ H _ _ v u Q I rx ry ⟨i, j, rfl, rfl, q.now h (.int _)⟩
    | _ => cases e
  | _ => cases e

theorem rep_list {k : Int} (I : Inv X pins σ H s) (rx : RelV x v) (ry : RelV (.int k) u)
    (h : Here X.K G0 H0 G μ H) (r1 : Rep X.K G.F H G.as x d1 fp1) (hB : ∀ a ∈ fp1, H0 a = none) (e : repL μ d1 k = .ok d μ') (q : OkP X.K G0 H0 μ' d Q) :
    wpAny (model X.prog X.w) X.A (binaryOp .Mult v u) (EP X pins σ Q) X.xe s := by
  unfold repL at e
  split at e
  · rename_i xs e1
    obtain ⟨h0, e⟩ := ok_bad e
    obtain ⟨h1, h2, h3⟩ := repOk_of h0
    cases e
    obtain ⟨a, vs, fq, rfl, hH, t, sb⟩ := asJ_at h.cells r1 e1
    obtain ⟨G', h', t', _⟩ := h.settleL t fun b hb => hB b (sb.subset hb)
    exact op_rep pins s σ H _ _ v u Q I rx ry ⟨a, k, vs, rfl, rfl, hH, h1, h2, by rw [t.length]; exact h3, fun p hp =>
      q.list h' (RepL.replicate t' k.toNat) List.nodup_nil (by simp) hp⟩
  · cases e
theorem opV_mul : OpR X (binaryOp .Mult) (rV X.K (binD .mul)) := by
  intro pins s σ H x y v u Q I rx ry ⟨G0, H0, G, μ, d1, d2, fp1, fp2, h, r1, r2, nd, hB, d, μ', e, q⟩
  simp only [binD] at e
  cases d1 with
  | int i =>
    cases d2 with
    | int j =>
      simp only at e
      obtain ⟨hl, e⟩ := ok_bad e
      cases e
      obtain ⟨rfl, rfl⟩ := two_ints r1 r2
      unfold mulOk at hl
      have hl' := of_decide_eq_true hl
      exact op_mulX pins s σ H _ _ v u Q I rx ry ⟨i, j, rfl, rfl, (by show (_ : Int) ≤ _; omega), q.now h (.int _)⟩
    | _ => cases e
  | _ =>
    cases d2 with
    | int j =>
      cases r2
      exact rep_list I rx ry h r1 (fun a ha => hB a (List.mem_append_left _ ha)) e q
    | _ => cases e
theorem opV_fdiv : OpR X (binaryOp .FloorDiv) (rV X.K (binD .fdiv)) := by
  intro pins s σ H x y v u Q I rx ry ⟨G0, H0, G, μ, d1, d2, fp1, fp2, h, r1, r2, nd, hB, d, μ', e, q⟩
  simp only [binD] at e
  cases d1 with
  | int i =>
    cases d2 with
    | int j =>
      simp only at e
      obtain ⟨hl, e⟩ := ok_bad e
      cases e
      obtain ⟨rfl, rfl⟩ := two_ints r1 r2
      unfold divOk at hl
      simp only [Bool.and_eq_true, decide_eq_true_eq] at hl
      exact op_fdivW pins s σ H _ _ v u Q I rx ry ⟨i, j, rfl, rfl, hl, q.now h (.int _)⟩
    | _ => cases e
  | _ => cases e
theorem opV_mod : OpR X (binaryOp .Mod) (rV X.K (binD .mod)) := by
  intro pins s σ H x y v u Q I rx ry ⟨G0, H0, G, μ, d1, d2, fp1, fp2, h, r1, r2, nd, hB, d, μ', e, q⟩
  simp only [binD] at e
  cases d1 with
  | int i =>
    cases d2 with
    | int j =>
      simp only at e
      obtain ⟨hl, e⟩ := ok_bad e
      cases e
      obtain ⟨rfl, rfl⟩ := two_ints r1 r2
      exact op_mod pins s σ H _ _ v u Q I rx ry ⟨i, j, rfl, rfl, hl, q.now h (.int _)⟩
    | _ => cases e
  | _ => cases e
theorem opV_pow : OpR X (binaryOp .Pow) (rV X.K (binD .pow)) := by
  intro pins s σ H x y v u Q I rx ry ⟨G0, H0, G, μ, d1, d2, fp1, fp2, h, r1, r2, nd, hB, d, μ', e, q⟩
  simp only [binD] at e
  cases d1 with
  | int i =>
    cases d2 with
    | int j =>
      simp only at e
      obtain ⟨hl, e⟩ := ok_bad e
      cases e
      obtain ⟨rfl, rfl⟩ := two_ints r1 r2
      unfold powOk at hl
      simp only [Bool.and_eq_true, decide_eq_true_eq] at hl
      obtain ⟨t, rfl⟩ := (show ∃ t, v = Value.int i t from rx)
      obtain ⟨t', rfl⟩ := (show ∃ t, u = Value.int j t from ry)
      have h2 : (PySem.Builtin.Int.intBits i : Int) * j ≤ 2 ^ 27 := by
        have e : j = (j.toNat : Int) := by omega
        rw [e, ← Int.natCast_mul]
        exact Int.le_trans (Int.ofNat_le.mpr hl.2) (by decide)
      exact PyProof.Rows.pow_int hl.1 h2 ⟨.int _, H, I.tok _, ⟨_, rfl⟩, q.now h (.int _)⟩
    | _ => cases e
  | _ => cases e

def opOf : Op → Operator
  | .add => .Add | .sub => .Sub | .mul => .Mult | .fdiv => .FloorDiv | .mod => .Mod | .pow => .Pow
theorem opV (o : Op) : OpR X (binaryOp (opOf o)) (rV X.K (binD o)) := by
  cases o with
  | add => exact opV_add
  | sub => exact opV_sub
  | mul => exact opV_mul
  | fdiv => exact opV_fdiv
  | mod => exact opV_mod
  | pow => exact opV_pow
end
end Pyf

/-! Pyf, part E: comparisons, truth, built-ins, by values. -/
namespace Pyf
open PySem PySem.Spec PyProof.Rows L2
open PySem (Str)

section
variable {K : PySem.W.Frag} {G0 G : Gh} {H0 H : Hp} {μ : Store} {Q : VK} {d d1 d2 : D} {x y : V} {fp fp1 fp2 : List Addr} {xs ys : List D}
/-! ### the data that == and repr see -/
theorem dp_ints (hS : Same G.F H) : ∀ ns : List Int, DpAll K H (ns.map V.int) (ns.map PyData.int)
  | [] => .nil
  | n :: ns => .cons (.int n) (dp_ints hS ns)
theorem toP_all (n : Nat) (ih : ∀ {d : D} {v : V} {fp : List Addr} {p : PyData}, Rep K G.F H G.as v d fp → toP μ n d = some p → Dp K H v p) :
    ∀ {xs : List D} {vs : List V} {fp : List Addr} {ps : List PyData}, RepL K G.F H G.as vs xs fp → mapO (toP μ n) xs = some ps → DpAll K H vs ps
  | _, _, _, _, .nil, e => by cases e; exact .nil
  | _, _, _, ps, .cons (d := d) (ds := ds) r t, e => by
    simp only [mapO] at e
    split at e
    · rename_i p hp
      split at e
      · rename_i qs hq
        cases e
        exact .cons (ih r hp) (toP_all n ih t hq)
      · cases e
    · cases e
theorem toP_dp (c : Cells K G μ H) : ∀ (n : Nat) {d : D} {v : V} {fp : List Addr} {p : PyData}, Rep K G.F H G.as v d fp → toP μ n d = some p → Dp K H v p
  | 0, _, _, _, _, _, e => by cases e
  | n + 1, d, v, fp, p, r, e => by
    have ih : ∀ {d : D} {v : V} {fp : List Addr} {p : PyData}, Rep K G.F H G.as v d fp → toP μ n d = some p → Dp K H v p := fun r e => toP_dp c n r e
    cases r with
    | non => cases e; exact .non
    | bl b => cases e; exact .bl b
    | int i => cases e; exact .int i
    | str s => cases e; exact .str s
    | scr ns h => cases e; exact .lst (sqL_mono c.same h) (dp_ints c.same ns)
    | lst h r =>
      simp only [toP, Option.map_eq_some_iff] at e
      obtain ⟨ps, h1, rfl⟩ := e
      exact .lst (SqL.of (c.same _ _ h)) (toP_all n ih r h1)
    | tup h r =>
      simp only [toP, Option.map_eq_some_iff] at e
      obtain ⟨ps, h1, rfl⟩ := e
      exact .tup (SqT.of (c.same _ _ h)) (toP_all n ih r h1)
    | new _ _ h r =>
      simp only [toP, Option.map_eq_some_iff] at e
      obtain ⟨ps, h1, rfl⟩ := e
      exact .lst (SqL.of h) (toP_all n ih r h1)
    | ntup _ _ h r =>
      simp only [toP, Option.map_eq_some_iff] at e
      obtain ⟨ps, h1, rfl⟩ := e
      exact .tup (SqT.of h) (toP_all n ih r h1)
    | ptr h =>
      rename_i a k
      simp only [toP] at e
      split at e
      · rename_i zs hz
        simp only [Option.map_eq_some_iff] at e
        obtain ⟨ps, h1, rfl⟩ := e
        obtain ⟨_, vs, hv, rr⟩ := c.lst k a _ h hz
        exact .lst (SqL.of hv) (toP_all n ih rr h1)
      · cases e
theorem eqD_some {b : Bool} (e : eqD μ d1 d2 = some b) : ∃ p q, toP μ 40 d1 = some p ∧ toP μ 40 d2 = some q ∧ SeqAt.shaped p = true ∧ SeqAt.shaped q = true ∧ b = PyData.eqv p q := by
  unfold eqD at e
  split at e
  · rename_i p q h1 h2
    split at e
    · rename_i hs
      simp only [Bool.and_eq_true] at hs
      cases e
      exact ⟨p, q, h1, h2, hs.1, hs.2, rfl⟩
    · cases e
  · cases e
theorem non_iff (r : Rep K G.F H G.as x d fp) : decide (x = .non) = isNon d := by
  cases r <;> first | rfl | (simp [isNon])
end

/-- two values under a comparison of trees -/
def rC (K : PySem.W.Frag) (f : D → D → Store → Option Bool) : R2 := fun x y H Q => ∃ (G : Gh) (μ : Store) (d1 d2 : D) (fp1 fp2 : List Addr),
  Cells K G μ H ∧ Rep K G.F H G.as x d1 fp1 ∧ Rep K G.F H G.as y d2 fp2 ∧ ∃ b, f d1 d2 μ = some b ∧ Q (.bl b) H
def cmOf : Cm → CmpOp
  | .eq => .Eq | .ne => .NotEq | .lt => .Lt | .le => .LtE | .gt => .Gt | .ge => .GtE | .is_ => .Is | .isnot => .IsNot | .in_ => .In | .notin => .NotIn

section
variable {X : Cx}
theorem cmV (hu : X.A.units + 65 < cLine) (o : Cm) : OpR X (compareOp (cmOf o)) (rC X.K (cmpD o)) := by
  intro pins s σ H x y v u Q I rx ry ⟨G, μ, d1, d2, fp1, fp2, c, r1, r2, b, e, q⟩
  have hu64 : X.A.units + 64 < cLine := by omega
  cases o with
  | eq =>
    obtain ⟨p, p', h1, h2, s1, s2, rfl⟩ := eqD_some (show eqD μ d1 d2 = some b from e)
    exact op_eqD hu64 pins s σ H x y v u Q I rx ry ⟨p, p', toP_dp c _ r1 h1, toP_dp c _ r2 h2, s1, s2, q⟩
  | ne =>
    simp only [cmpD, Option.map_eq_some_iff] at e
    obtain ⟨b', e, rfl⟩ := e
    obtain ⟨p, p', h1, h2, s1, s2, rfl⟩ := eqD_some e
    exact op_neD hu64 pins s σ H x y v u Q I rx ry ⟨p, p', toP_dp c _ r1 h1, toP_dp c _ r2 h2, s1, s2, q⟩
  | lt =>
    simp only [cmpD] at e
    split at e
    · cases e
      obtain ⟨rfl, rfl⟩ := two_ints r1 r2
      exact op_lt pins s σ H _ _ v u Q I rx ry ⟨_, _, rfl, rfl, q⟩
    · cases e
  | le =>
    simp only [cmpD] at e
    split at e
    · cases e
      obtain ⟨rfl, rfl⟩ := two_ints r1 r2
      exact op_le pins s σ H _ _ v u Q I rx ry ⟨_, _, rfl, rfl, q⟩
    · cases e
  | gt =>
    simp only [cmpD] at e
    split at e
    · cases e
      obtain ⟨rfl, rfl⟩ := two_ints r1 r2
      exact op_gt pins s σ H _ _ v u Q I rx ry ⟨_, _, rfl, rfl, q⟩
    · cases e
  | ge =>
    simp only [cmpD] at e
    split at e
    · cases e
      obtain ⟨rfl, rfl⟩ := two_ints r1 r2
      exact op_ge pins s σ H _ _ v u Q I rx ry ⟨_, _, rfl, rfl, q⟩
    · cases e
  | is_ =>
    have e : isD d1 d2 = some b := e
    unfold isD at e
    split at e
    · cases r2
      have e' := Option.some.inj e
      refine op_isN pins s σ H x .non v u Q I rx ry ⟨rfl, ?_⟩
      rw [non_iff r1, e']; exact q
    · cases r2
      split at e
      · cases r1
        cases e
        exact op_isBl pins s σ H _ _ v u Q I rx ry ⟨_, _, rfl, rfl, q⟩
      · cases e
    · cases e
  | isnot =>
    simp only [cmpD, Option.map_eq_some_iff] at e
    obtain ⟨b', e, rfl⟩ := e
    unfold isD at e
    split at e
    · cases r2
      have e' := Option.some.inj e
      refine op_notN pins s σ H x .non v u Q I rx ry ⟨rfl, ?_⟩
      rw [non_iff r1, e']; exact q
    · cases r2
      split at e
      · cases r1
        cases e
        exact op_notBl pins s σ H _ _ v u Q I rx ry ⟨_, _, rfl, rfl, q⟩
      · cases e
    · cases e
  | in_ =>
    have e : inD μ d1 d2 = some b := e
    unfold inD at e
    split at e
    · cases r2
      split at e
      · cases r1
        cases e
        exact op_in_str pins s σ H _ _ v u Q I rx ry ⟨_, _, rfl, rfl, q⟩
      · cases e
    · split at e
      · rename_i p qs h1 h2
        split at e
        · rename_i hs
          simp only [Bool.and_eq_true] at hs
          cases e
          exact op_inD hu pins s σ H x y v u Q I rx ry ⟨p, qs, toP_dp c _ r1 h1, toP_dp c _ r2 h2, hs.1, hs.2, q⟩
        · cases e
      · cases e
  | notin =>
    simp only [cmpD, Option.map_eq_some_iff] at e
    obtain ⟨b', e, rfl⟩ := e
    unfold inD at e
    split at e
    · cases r2
      split at e
      · cases r1
        cases e
        exact op_notin_str pins s σ H _ _ v u Q I rx ry ⟨_, _, rfl, rfl, q⟩
      · cases e
    · split at e
      · rename_i p qs h1 h2
        split at e
        · rename_i hs
          simp only [Bool.and_eq_true] at hs
          cases e
          exact op_notInD hu pins s σ H x y v u Q I rx ry ⟨p, qs, toP_dp c _ r1 h1, toP_dp c _ r2 h2, hs.1, hs.2, q⟩
        · cases e
      · cases e

/-! ### truth -/
theorem RepL.isEmpty {K : PySem.W.Frag} {F H : Hp} {as : List Addr} {vs : List V} {ds : List D} {fp : List Addr} (r : RepL K F H as vs ds fp) : ds.isEmpty = vs.isEmpty := by
  have h := r.length
  cases vs <;> cases ds <;> simp_all
theorem truV_of {K : PySem.W.Frag} {G : Gh} {H : Hp} {μ : Store} {x : V} {d : D} {fp : List Addr} {b : Bool} (c : Cells K G μ H) (r : Rep K G.F H G.as x d fp) (e : truD μ d = some b) : TruV K x H b := by
  cases r with
  | non => cases e; rfl
  | bl b => cases e; rfl
  | int i => cases e; rfl
  | str s =>
    simp only [truD] at e
    split at e
    · cases e; exact ⟨by assumption, rfl⟩
    · cases e
  | scr ns h => cases e; exact .inl ⟨_, sqL_mono c.same h, by cases ns <;> rfl⟩
  | lst h r => cases e; exact .inl ⟨_, SqL.of (c.same _ _ h), by rw [r.isEmpty]⟩
  | tup h r => cases e; exact .inr (.inl ⟨_, SqT.of (c.same _ _ h), by rw [r.isEmpty]⟩)
  | new _ _ h r => cases e; exact .inl ⟨_, SqL.of h, by rw [r.isEmpty]⟩
  | ntup _ _ h r => cases e; exact .inr (.inl ⟨_, SqT.of h, by rw [r.isEmpty]⟩)
  | ptr h =>
    rename_i a k
    simp only [truD] at e
    split at e
    · rename_i zs hz
      cases e
      obtain ⟨_, vs, hv, rr⟩ := c.lst k a _ h hz
      exact .inl ⟨_, SqL.of hv, by rw [rr.isEmpty]⟩
    · cases e
end
end Pyf

/-! Pyf, part F: built-ins by values. -/
namespace Pyf
open PySem PySem.Spec PyProof.Rows L2
open PySem (Str)

/-- values, told as trees, under a function of trees -/
def rB (K : PySem.W.Frag) (f : List D → Store → Res D) : List V → Hp → VK → Prop := fun vs H Q => ∃ (G0 : Gh) (H0 : Hp) (G : Gh) (μ : Store) (ds : List D) (fp : List Addr),
  Here K G0 H0 G μ H ∧ RepL K G.F H G.as vs ds fp ∧ fp.Nodup ∧ (∀ a ∈ fp, H0 a = none) ∧ ∃ d μ', f ds μ = .ok d μ' ∧ OkP K G0 H0 μ' d Q
def biOf : Bi → Value
  | .len => .builtin "len" | .sum => .builtin "sum" | .abs => .builtin "abs" | .all => .builtin "all" | .any => .builtin "any" | .int => .type "int"
  | .max1 => .builtin "max" | .min1 => .builtin "min" | .max2 => .builtin "max" | .min2 => .builtin "min" | .list => .type "list" | .tuple => .type "tuple"
  | .repr => .builtin "repr" | .str => .type "str" | .divmod => .builtin "divmod" | .sorted => .builtin "sorted"
def biName : Bi → Str
  | .len => "len" | .sum => "sum" | .abs => "abs" | .all => "all" | .any => "any" | .int => "int"
  | .max1 => "max" | .min1 => "min" | .max2 => "max" | .min2 => "min" | .list => "list" | .tuple => "tuple"
  | .repr => "repr" | .str => "str" | .divmod => "divmod" | .sorted => "sorted"

theorem maxL_eq : ∀ (ns : List Int) (m : Int), m ∈ ns → (∀ y, y ∈ ns → y ≤ m) → maxL ns = m
  | [], m, h, _ => nomatch h
  | [x], m, h, _ => (List.mem_singleton.mp h).symm
  | x :: y :: ns, m, h, hl => by
    have hx := hl x List.mem_cons_self
    show (if x ≤ maxL (y :: ns) then maxL (y :: ns) else x) = m
    by_cases hm : m ∈ y :: ns
    · rw [maxL_eq (y :: ns) m hm fun z hz => hl z (List.mem_cons_of_mem _ hz), if_pos hx]
    · have e : m = x := by
        rcases List.mem_cons.mp h with e | h
        · exact e
        · exact absurd h hm
      subst e
      have key : ∀ (ns : List Int), ns ≠ [] → maxL ns ∈ ns := by
        intro ns
        induction ns with
        | nil => intro h; exact absurd rfl h
        | cons a t ih =>
          intro _
          cases t with
          | nil => exact List.mem_cons_self
          | cons b t =>
            show (if a ≤ maxL (b :: t) then maxL (b :: t) else a) ∈ _
            split
            · exact List.mem_cons_of_mem _ (ih (by simp))
            · exact List.mem_cons_self
      have hk := key (y :: ns) (by simp)
      have h1 := hl _ (List.mem_cons_of_mem _ hk)
      by_cases h2 : m ≤ maxL (y :: ns)
      · exact absurd (by rw [show m = maxL (y :: ns) by omega]; exact hk) hm
      · rw [if_neg h2]
theorem minL_eq : ∀ (ns : List Int) (m : Int), m ∈ ns → (∀ y, y ∈ ns → m ≤ y) → minL ns = m
  | [], m, h, _ => nomatch h
  | [x], m, h, _ => (List.mem_singleton.mp h).symm
  | x :: y :: ns, m, h, hl => by
    have hx := hl x List.mem_cons_self
    show (if minL (y :: ns) ≤ x then minL (y :: ns) else x) = m
    by_cases hm : m ∈ y :: ns
    · rw [minL_eq (y :: ns) m hm fun z hz => hl z (List.mem_cons_of_mem _ hz), if_pos hx]
    · have e : m = x := by
        rcases List.mem_cons.mp h with e | h
        · exact e
        · exact absurd h hm
      subst e
      have key : ∀ (ns : List Int), ns ≠ [] → minL ns ∈ ns := by
        intro ns
        induction ns with
        | nil => intro h; exact absurd rfl h
        | cons a t ih =>
          intro _
          cases t with
          | nil => exact List.mem_cons_self
          | cons b t =>
            show (if minL (b :: t) ≤ a then minL (b :: t) else a) ∈ _
            split
            · exact List.mem_cons_of_mem _ (ih (by simp))
            · exact List.mem_cons_self
      have hk := key (y :: ns) (by simp)
      have h1 := hl _ (List.mem_cons_of_mem _ hk)
      by_cases h2 : minL (y :: ns) ≤ m
      · exact absurd (by rw [show m = minL (y :: ns) by omega]; exact hk) hm
      · rw [if_neg h2]

theorem one_of {K : PySem.W.Frag} {F H : Hp} {as : List Addr} {vs : List V} {d : D} {fp : List Addr} (r : RepL K F H as vs [d] fp) : ∃ x, vs = [x] ∧ Rep K F H as x d fp := by
  cases r with
  | cons r t =>
    cases t
    exact ⟨_, rfl, by rw [List.append_nil]; exact r⟩
theorem two_of {K : PySem.W.Frag} {F H : Hp} {as : List Addr} {vs : List V} {d e : D} {fp : List Addr} (r : RepL K F H as vs [d, e] fp) : ∃ x y fp1 fp2, vs = [x, y] ∧ Rep K F H as x d fp1 ∧ Rep K F H as y e fp2 ∧ fp = fp1 ++ fp2 := by
  cases r with
  | cons r t =>
    obtain ⟨y, rfl, t'⟩ := one_of t
    exact ⟨_, y, _, _, rfl, r, t', rfl⟩

theorem noPylong {i j : Int} (h : j.natAbs.log2 < 9000) : Builtin.divisionGoesByPylong i j = false := by
  unfold Builtin.divisionGoesByPylong
  rw [Bool.and_eq_false_iff]
  refine .inl (decide_eq_false ?_)
  dsimp only
  split <;> omega

section
variable {X : Cx}
theorem repr_of_dp (hg : X.A.guards = some []) (hu : X.A.units + 65 < cLine) {pins : List (Addr × Obj)} {s : Shared} {σ : L2.St} {H : Hp} {x : V} {v : Value} {Q : VK} {p : PyData} (I : Inv X pins σ H s) (rx : RelV x v) (hp : Dp X.K H x p)
    (hs : p.showable = true) (hd : p.hasDict = false) (hsz : p.shown.length ≤ sizeLine) (hdep : p.depth ≤ 60) (q : Q (.str p.shown) H) : wpAny (model X.prog X.w) X.A (call (.builtin "repr") [v]) (EP X pins σ Q) X.xe s := by
  obtain ⟨as, r⟩ := Dp.reads I p x v hp rx
  cases hp with
  | non => cases rx; exact P.repr_of_none ⟨.str _, H, I.tok _, ⟨_, rfl⟩, q⟩
  | bl b => cases rx; exact P.repr_of_bool ⟨.str _, H, I.tok _, ⟨_, rfl⟩, q⟩
  | int i => obtain ⟨t, rfl⟩ := rx; exact P.repr_of_int (of_decide_eq_true hs) ⟨.str _, H, I.tok _, ⟨_, rfl⟩, q⟩
  | str z => obtain ⟨t, rfl⟩ := rx; exact P.repr_of_str ⟨.str _, H, I.tok _, ⟨_, rfl⟩, q⟩ hsz
  | lst h1 h2 =>
    cases rx
    exact repr_of_reads' r hs (PyData.noDict_hsm hd) hg (by omega) (fun _ _ e => e) (fun h' u tk k => ⟨.str _, H, I.kept k, ⟨_, rfl⟩, q⟩) hsz
  | tup h1 h2 =>
    cases rx
    exact repr_of_reads' r hs (PyData.noDict_hsm hd) hg (by omega) (fun _ _ e => e) (fun h' u tk k => ⟨.str _, H, I.kept k, ⟨_, rfl⟩, q⟩) hsz

theorem bi1_ok {f : D → Store → Res D} {xs : List D} {μ μ' : Store} {d : D} (e : bi1 f xs μ = .ok d μ') : ∃ x, xs = [x] ∧ f x μ = .ok d μ' := by
  unfold bi1 at e
  split at e
  · exact ⟨_, rfl, e⟩
  · cases e
theorem bi2_ok {f : D → D → Store → Res D} {xs : List D} {μ μ' : Store} {d : D} (e : bi2 f xs μ = .ok d μ') : ∃ x y, xs = [x, y] ∧ f x y μ = .ok d μ' := by
  unfold bi2 at e
  split at e
  · exact ⟨_, _, rfl, e⟩
  · cases e
theorem ints_at {K : PySem.W.Frag} {G : Gh} {H : Hp} {μ : Store} {x : V} {d : D} {fp : List Addr} {ns : List Int} (c : Cells K G μ H) (r : Rep K G.F H G.as x d fp) (e : (asL μ d).bind intsOf = some ns) : ∃ a, x = .ref a ∧ SqL K H a (ns.map V.int) := by
  cases e1 : asL μ d with
  | none => rw [e1] at e; cases e
  | some xs =>
    rw [e1] at e
    obtain ⟨a, vs, fq, rfl, hq, t, _⟩ := asL_at c r e1
    exact ⟨a, rfl, by rw [← intsOf_at t e]; exact hq⟩
theorem bools_at {K : PySem.W.Frag} {G : Gh} {H : Hp} {μ : Store} {x : V} {d : D} {fp : List Addr} {ns : List Bool} (c : Cells K G μ H) (r : Rep K G.F H G.as x d fp) (e : (asL μ d).bind boolsOf = some ns) : ∃ a, x = .ref a ∧ SqL K H a (ns.map V.bl) := by
  cases e1 : asL μ d with
  | none => rw [e1] at e; cases e
  | some xs =>
    rw [e1] at e
    obtain ⟨a, vs, fq, rfl, hq, t, _⟩ := asL_at c r e1
    exact ⟨a, rfl, by rw [← boolsOf_at t e]; exact hq⟩

/-- an item of a list that is sorted: its tree, what it reads as, its value, what it owns -/
structure Qd where
  d : D
  p : PyData
  x : V
  fp : List Addr
def QdIs (K : PySem.W.Frag) (F H : Hp) (as : List Addr) (v : Value) (b : Qd) : Prop := RelV b.x v ∧ Rep K F H as b.x b.d b.fp ∧ Dp K H b.x b.p
theorem quads {K : PySem.W.Frag} {G : Gh} {H : Hp} {μ : Store} (c : Cells K G μ H) : ∀ {ys : List D} {ws : List V} {fq : List Addr} {ps : List PyData} {its : List Value}, RepL K G.F H G.as ws ys fq → mapO (toP μ 40) ys = some ps → Vals ws its →
    ∃ bs : List Qd, bs.map Qd.d = ys ∧ bs.map Qd.p = ps ∧ (bs.map Qd.fp).flatten = fq ∧ PySem.W.EachIs (QdIs K G.F H G.as) its bs
  | [], _, _, _, _, t, e, r => by
    cases t
    cases e
    cases r
    exact ⟨[], rfl, rfl, rfl, .nil⟩
  | y :: ys, _, _, _, _, t, e, r => by
    cases t with
    | cons r1 t1 =>
      simp only [mapO] at e
      split at e
      · rename_i p hp
        split at e
        · rename_i ps hps
          cases e
          cases r with
          | cons q1 q2 =>
            obtain ⟨bs, e1, e2, e3, e4⟩ := quads c t1 hps q2
            exact ⟨⟨y, p, _, _⟩ :: bs, by rw [List.map_cons, e1], by rw [List.map_cons, e2], by rw [List.map_cons, List.flatten_cons, e3], .cons ⟨q1, r1, toP_dp c _ r1 hp⟩ e4⟩
        · cases e
      · cases e
theorem unquads {K : PySem.W.Frag} {F H : Hp} {as : List Addr} : ∀ {out : List Value} {bs : List Qd}, PySem.W.EachIs (QdIs K F H as) out bs → RepL K F H as (bs.map Qd.x) (bs.map Qd.d) (bs.map Qd.fp).flatten ∧ Vals (bs.map Qd.x) out
  | _, _, .nil => ⟨.nil, .nil⟩
  | _, _, .cons ⟨h1, h2, _⟩ t => by
    obtain ⟨a, b⟩ := unquads t
    exact ⟨.cons h2 a, .cons h1 b⟩
theorem sortBy_quads (bs : List Qd) : sortBy (bs.map Qd.d) (bs.map Qd.p) = (bs.mergeSort (PySem.W.dataLe false Qd.p)).map Qd.d := by
  unfold sortBy
  have e : (bs.map Qd.d).zip (bs.map Qd.p) = bs.map fun b => (b.d, b.p) := by
    induction bs with
    | nil => rfl
    | cons b bs ih => simp [ih]
  have := PySem.W.sort_maps (r := PySem.W.dataLe false Qd.p) (s := PySem.W.dataLe false (Prod.snd : D × PyData → PyData)) (fun b : Qd => (b.d, b.p)) (l := bs) fun a _ b _ => rfl
  rw [e, ← this, List.map_map]
  rfl
theorem biV (hc : X.calm = true) (hg : X.A.guards = some []) (hu : X.A.units + 65 < cLine) (b : Bi) : CallR X (biOf b) (rB X.K (biD b)) := by
  intro pins s σ H vs us Q I rus ⟨G0, H0, G, μ, ds, fp, h, rs, nd, hB, d, μ', e, q⟩
  cases b with
  | len =>
    have e' := bi1_ok (f := lenD) e
    clear e
    obtain ⟨x, rfl, e⟩ := e'
    obtain ⟨v, rfl, r⟩ := one_of rs
    unfold lenD at e
    split at e
    · obtain ⟨hl, e⟩ := ok_bad e
      cases e; cases r
      exact call_len_str pins s σ H _ us Q I rus ⟨_, rfl, hl, q.now h (.int _)⟩
    · split at e
      · rename_i ys e1
        cases e
        obtain ⟨a, ws, fq, rfl, hq, t, _⟩ := asQ_at h.cells r e1
        exact call_len_seq pins s σ H _ us Q I rus ⟨a, ws, rfl, hq, by rw [t.length]; exact q.now h (.int _)⟩
      · cases e
  | sum =>
    have e' := bi1_ok (f := sumD) e
    clear e
    obtain ⟨x, rfl, e⟩ := e'
    obtain ⟨v, rfl, r⟩ := one_of rs
    unfold sumD at e
    split at e
    · rename_i ns e1
      cases e
      obtain ⟨a, rfl, hq⟩ := ints_at h.cells r e1
      exact cr_sum hc pins s σ H _ us Q I rus ⟨a, ns, rfl, hq, q.now h (.int _)⟩
    · cases e
  | abs =>
    have e' := bi1_ok (f := absD) e
    clear e
    obtain ⟨x, rfl, e⟩ := e'
    obtain ⟨v, rfl, r⟩ := one_of rs
    unfold absD at e
    split at e
    · cases e; cases r
      exact call_abs pins s σ H _ us Q I rus ⟨_, rfl, q.now h (.int _)⟩
    · cases e
  | all =>
    have e' := bi1_ok (f := allD) e
    clear e
    obtain ⟨x, rfl, e⟩ := e'
    obtain ⟨v, rfl, r⟩ := one_of rs
    unfold allD at e
    split at e
    · rename_i ns e1
      cases e
      obtain ⟨a, rfl, hq⟩ := bools_at h.cells r e1
      exact cr_all hc pins s σ H _ us Q I rus ⟨a, ns, rfl, hq, q.now h (.bl _)⟩
    · cases e
  | any =>
    have e' := bi1_ok (f := anyD) e
    clear e
    obtain ⟨x, rfl, e⟩ := e'
    obtain ⟨v, rfl, r⟩ := one_of rs
    unfold anyD at e
    split at e
    · rename_i ns e1
      cases e
      obtain ⟨a, rfl, hq⟩ := bools_at h.cells r e1
      exact cr_any hc pins s σ H _ us Q I rus ⟨a, ns, rfl, hq, q.now h (.bl _)⟩
    · cases e
  | int =>
    have e' := bi1_ok (f := intD) e
    clear e
    obtain ⟨x, rfl, e⟩ := e'
    obtain ⟨v, rfl, r⟩ := one_of rs
    unfold intD at e
    split at e
    · cases e; cases r
      exact call_int1 pins s σ H _ us Q I rus (.inl ⟨_, rfl, q.now h (.int _)⟩)
    · cases e; cases r
      exact call_int1 pins s σ H _ us Q I rus (.inr ⟨_, rfl, q.now h (.int _)⟩)
    · cases e
  | max1 =>
    have e' := bi1_ok (f := max1D) e
    clear e
    obtain ⟨x, rfl, e⟩ := e'
    obtain ⟨v, rfl, r⟩ := one_of rs
    unfold max1D at e
    split at e
    · rename_i ns e1
      obtain ⟨hl, e⟩ := ok_bad e
      cases e
      obtain ⟨a, rfl, hq⟩ := ints_at h.cells r e1
      exact cr_max hc pins s σ H _ us Q I rus ⟨a, ns, rfl, hq, hl, fun m h1 h2 => by rw [← maxL_eq ns m h1 h2]; exact q.now h (.int _)⟩
    · cases e
  | min1 =>
    have e' := bi1_ok (f := min1D) e
    clear e
    obtain ⟨x, rfl, e⟩ := e'
    obtain ⟨v, rfl, r⟩ := one_of rs
    unfold min1D at e
    split at e
    · rename_i ns e1
      obtain ⟨hl, e⟩ := ok_bad e
      cases e
      obtain ⟨a, rfl, hq⟩ := ints_at h.cells r e1
      exact cr_min hc pins s σ H _ us Q I rus ⟨a, ns, rfl, hq, hl, fun m h1 h2 => by rw [← minL_eq ns m h1 h2]; exact q.now h (.int _)⟩
    · cases e
  | max2 =>
    have e' := bi2_ok (f := max2D) e
    clear e
    obtain ⟨x, y, rfl, e⟩ := e'
    obtain ⟨v, w, fp1, fp2, rfl, r1, r2, rfl⟩ := two_of rs
    unfold max2D at e
    split at e
    · cases e; cases r1; cases r2
      exact call_max2 hc pins s σ H _ us Q I rus ⟨_, _, rfl, q.now h (.int _)⟩
    · cases e
  | min2 =>
    have e' := bi2_ok (f := min2D) e
    clear e
    obtain ⟨x, y, rfl, e⟩ := e'
    obtain ⟨v, w, fp1, fp2, rfl, r1, r2, rfl⟩ := two_of rs
    unfold min2D at e
    split at e
    · cases e; cases r1; cases r2
      exact call_min2 hc pins s σ H _ us Q I rus ⟨_, _, rfl, q.now h (.int _)⟩
    · cases e
  | list =>
    have e' := bi1_ok (f := listD) e
    clear e
    obtain ⟨x, rfl, e⟩ := e'
    obtain ⟨v, rfl, r⟩ := one_of rs
    unfold listD at e
    split at e
    · rename_i ys e1
      cases e
      obtain ⟨a, ws, fq, rfl, hq, t, sb⟩ := asQ_at h.cells r e1
      exact call_list_of pins s σ H _ us Q I rus ⟨a, ws, rfl, hq, fun l hl => q.list h t (nd.sublist sb) (fun b hb => hB b (sb.subset hb)) hl⟩
    · cases e
  | tuple =>
    have e' := bi1_ok (f := tupleD) e
    clear e
    obtain ⟨x, rfl, e⟩ := e'
    obtain ⟨v, rfl, r⟩ := one_of rs
    unfold tupleD at e
    split at e
    · rename_i ys e1
      cases e
      obtain ⟨a, ws, fq, rfl, hq, t, sb⟩ := asL_at h.cells r e1
      exact call_tuple_of pins s σ H _ us Q I rus ⟨a, ws, rfl, .inl ⟨hq, fun l hl => q.tuple h t (nd.sublist sb) (fun b hb => hB b (sb.subset hb)) hl⟩⟩
    · cases e
  | repr =>
    have e' := bi1_ok (f := reprD) e
    clear e
    obtain ⟨x, rfl, e⟩ := e'
    obtain ⟨v, rfl, r⟩ := one_of rs
    unfold reprD at e
    split at e
    · rename_i p e1
      obtain ⟨hs, e⟩ := ok_bad e
      cases e
      simp only [Bool.and_eq_true, decide_eq_true_eq, Bool.not_eq_true'] at hs
      obtain ⟨u, rfl, ru⟩ := vals1 rus
      exact repr_of_dp hg hu I ru (toP_dp h.cells _ r e1) hs.1.1.1 hs.1.1.2 hs.1.2 hs.2 (q.now h (.str _))
    · cases e
  | str =>
    have e' := bi1_ok (f := strD) e
    clear e
    obtain ⟨x, rfl, e⟩ := e'
    obtain ⟨v, rfl, r⟩ := one_of rs
    unfold strD at e
    split at e
    · obtain ⟨hl, e⟩ := ok_bad e
      cases e; cases r
      exact call_str_int pins s σ H _ us Q I rus ⟨_, rfl, hl, q.now h (.str _)⟩
    · cases e
  | divmod =>
    have e' := bi2_ok (f := divmodD) e
    clear e
    obtain ⟨x, y, rfl, e⟩ := e'
    obtain ⟨v, w, fp1, fp2, rfl, r1, r2, rfl⟩ := two_of rs
    unfold divmodD at e
    split at e
    · obtain ⟨hl, e⟩ := ok_bad e
      cases e; cases r1; cases r2
      unfold divOk at hl
      simp only [Bool.and_eq_true, decide_eq_true_eq] at hl
      exact call_divmodW pins s σ H _ us Q I rus ⟨_, _, rfl, ⟨hl.1, noPylong hl.2⟩, fun p hp => q.tuple h (RepL.cons (fp := []) (fps := []) (.int _) (RepL.cons (fp := []) (fps := []) (.int _) .nil)) List.nodup_nil (by simp) hp⟩
    · cases e
  | sorted =>
    have e' := bi1_ok (f := sortD) e
    clear e
    obtain ⟨x, rfl, e⟩ := e'
    obtain ⟨v, rfl, r⟩ := one_of rs
    unfold sortD at e
    split at e
    · rename_i ys e1
      split at e
      · rename_i ps e2
        split at e
        · rename_i hh
          obtain ⟨hal, hk, hdep⟩ := hh
          cases e
          obtain ⟨a, ws, fq, rfl, hq, t, sb⟩ := asL_at h.cells r e1
          obtain ⟨its, rv, pl, hz⟩ := I.list hq
          rw [Vals.ref1 rus]
          obtain ⟨bs, b1, b2, b3, b4⟩ := quads h.cells t e2 rv
          rw [← b2] at hal hk hdep
          have hL : bs.length ≤ sizeLine := by
            have h1 := b4.length
            have h2 := rv.length
            omega
          refine PySem.W.sorted_data pl.isList b4 (b4.mono fun v b q => Dp.reads I b.p b.x v q.2.2 q.1) hal hk hL (fun b hb => ?_) fun out h1 h2 => ?_
          · have := hdep b.p (List.mem_map_of_mem hb)
            omega
          · obtain ⟨u1, u2⟩ := unquads h2
            obtain ⟨ep, he'⟩ := PyProof.Rows.sortedAll_at s.heap its out.toArray
            have pm : (bs.mergeSort (PySem.W.dataLe false Qd.p)).Perm bs := List.mergeSort_perm _ _
            have pf : (((bs.mergeSort (PySem.W.dataLe false Qd.p)).map Qd.fp).flatten).Perm fq := by
              rw [← b3]; exact (pm.map _).flatten
            have hlen : ((bs.mergeSort (PySem.W.dataLe false Qd.p)).map Qd.x).length ≤ sizeLine := by
              rw [List.length_map, pm.length_eq]; exact hL
            rw [← b1, ← b2, sortBy_quads] at q
            exact ⟨.ref _, upd H (s.heap.objs.size + 1) (.lst ((bs.mergeSort (PySem.W.dataLe false Qd.p)).map Qd.x)), I.laid (t' := s.toks) (fun _ _ => PyProof.Rows.sortedAll_old) (Nat.le_succ _) ⟨hlen, out, ep, u2, he'⟩, rfl,
              q.list h u1 (pf.nodup_iff.mpr (nd.sublist sb)) (fun b hb => hB b (sb.subset (pf.mem_iff.mp hb))) (I.hok.fresh (Nat.le_succ _))⟩
        · cases e
      · cases e
    · cases e
end
end Pyf

/-! Pyf, part G: places, cells that change, methods, by values. -/
namespace Pyf
open PySem PySem.Spec PyProof.Rows L2
open PySem (Str)

section
variable {K : PySem.W.Frag} {G0 G : Gh} {H0 H : Hp} {μ μ' : Store} {Q : VK} {d d1 d2 : D} {x y : V} {fp fp1 fp2 : List Addr} {xs ys : List D}
/-- a cell is written -/
theorem Here.cell (h : Here K G0 H0 G μ H) {k : Nat} {a : Addr} {ds ds' : List D} {vs' : List V} (hk : G.as[k]? = some a) (hc : μ[k]? = some (.lst ds)) (r : RepL K G.F H G.as vs' ds' []) :
    Here K G0 H0 G (μ.set k (.lst ds')) (upd H a (.lst vs')) := by
  obtain ⟨hF, vs, hv, rv⟩ := h.cells.lst k a ds hk hc
  have hka := List.mem_of_getElem? hk
  refine ⟨⟨h.ext.f, h.ext.as, fun b o hb hn => ?_, h.ext.nf, fun b o hb => ?_⟩, ⟨fun b o hb => ?_, by rw [List.length_set]; exact h.cells.len, h.cells.nd, fun b hb => ?_, fun j b es h1 h2 => ?_⟩⟩
  · have : b ≠ a := fun z => by
      subst z
      obtain ⟨l, e, hl⟩ := h.ext.as
      rw [e] at hka
      rcases List.mem_append.mp hka with z | z
      · exact hn z
      · rw [hl _ z] at hb; cases hb
    rw [upd_ne this]
    exact h.ext.fr b o hb hn
  · by_cases e : b = a
    · subst e; exact ⟨_, upd_same⟩
    · rw [upd_ne e]; exact h.ext.tr b o hb
  · have : b ≠ a := fun z => by subst z; rw [hF] at hb; cases hb
    rw [upd_ne this]
    exact h.cells.same b o hb
  · by_cases e : b = a
    · subst e; exact ⟨_, upd_same⟩
    · rw [upd_ne e]; exact h.cells.there b hb
  · by_cases hj : j = k
    · subst hj
      rw [hk] at h1
      cases h1
      rw [List.getElem?_set_self (List.getElem?_eq_some_iff.mp hc).1] at h2
      cases h2
      exact ⟨hF, _, upd_same, r.set (Same.refl _) (fun _ _ z => z) rfl⟩
    · rw [List.getElem?_set_ne (Ne.symm hj)] at h2
      obtain ⟨hF', ws, hw, rw'⟩ := h.cells.lst j b es h1 h2
      have : b ≠ a := fun z => hj (by
        subst z
        exact nd_ix h.cells.nd h1 hk)
      exact ⟨hF', ws, by rw [upd_ne this]; exact hw, rw'.set (Same.refl _) (fun _ _ z => z) rfl⟩
/-- the cell that a pointer names -/
theorem cell_of (h : Here K G0 H0 G μ H) {k : Nat} {ds : List D} (r : Rep K G.F H G.as x d fp) (e : cellD μ d = some (k, ds)) : ∃ a vs, x = .ref a ∧ G.as[k]? = some a ∧ μ[k]? = some (.lst ds) ∧ H a = some (.lst vs) ∧ RepL K G.F H G.as vs ds [] ∧ fp = [] ∧ d = .ptr k := by
  unfold cellD at e
  split at e
  · split at e
    · rename_i ys hy
      cases e
      cases r with
      | ptr hk =>
        obtain ⟨_, vs, hv, rv⟩ := h.cells.lst k _ ds hk hy
        exact ⟨_, vs, rfl, hk, hy, hv, rv, rfl, rfl⟩
    · cases e
  · cases e
theorem ptr_as {as as' : List Addr} {F F' H' : Hp} {k : Nat} (r : Rep K F H as x (.ptr k) fp) (e : as' = as) : Rep K F' H' as' x (.ptr k) [] := by
  cases r with
  | ptr hk => exact .ptr (by rw [e]; exact hk)

theorem atI_rep {F : Hp} {as : List Addr} {vs : List V} {ds : List D} {i : Int} {d : D} (r : RepL K F H as vs ds fp) (e : atI ds i = some d) : ∃ v fq, atI vs i = some v ∧ Rep K F H as v d fq ∧ fq.Sublist fp := by
  unfold atI at e ⊢
  rw [r.length]
  cases h : ixN ds.length i with
  | none => rw [h] at e; cases e
  | some j =>
    rw [h] at e
    exact r.get e
end

def ixV (x i : D) (μ : Store) : Res D := ixD μ x i
section
variable {X : Cx}
theorem ixOk : IxR X (rV X.K ixV) := by
  intro value slice pins s σ H x y v u Q I rx ry ⟨G0, H0, G, μ, d1, d2, fp1, fp2, h, r1, r2, nd, hB, d, μ', e, q⟩ hs
  unfold ixV ixD at e
  split at e
  · rename_i i
    cases r2
    split at e
    · rename_i z
      split at e
      · rename_i c hc
        obtain ⟨hl, e⟩ := ok_bad e
        cases e; cases r1
        exact ix_str value slice pins s σ H _ _ v u Q I rx ry ⟨z, i, c, rfl, rfl, hl, hc, q.now h (.str _)⟩ hs
      · cases e
    · split at e
      · rename_i ys e1
        split at e
        · rename_i z hz
          cases e
          obtain ⟨a, ws, fq, rfl, hq, t, sb⟩ := asQ_at h.cells r1 e1
          obtain ⟨w, fr, hw, rw', sb2⟩ := atI_rep t hz
          have sb3 : fr.Sublist (fp1 ++ []) := (sb2.trans sb).trans (List.sublist_append_left _ _)
          have fin : Q w H := q G H w fr h rw' (nd.sublist sb3) fun b hb => hB b (sb3.subset hb)
          rcases hq with hq | hq
          · exact ix_list value slice pins s σ H _ _ v u Q I rx ry ⟨a, ws, i, w, rfl, rfl, hq, hw, fin⟩ hs
          · exact ix_tup value slice pins s σ H _ _ v u Q I rx ry ⟨a, ws, i, w, rfl, rfl, hq, hw, fin⟩ hs
        · cases e
      · cases e
  · cases e

/-- a slice -/
def rS (K : PySem.W.Frag) : V → Option Int → Option Int → Hp → VK → Prop := fun x lo hi H Q => ∃ (G0 : Gh) (H0 : Hp) (G : Gh) (μ : Store) (d1 : D) (fp1 : List Addr) (ys : List D),
  Here K G0 H0 G μ H ∧ Rep K G.F H G.as x d1 fp1 ∧ fp1.Nodup ∧ (∀ a ∈ fp1, H0 a = none) ∧ asL μ d1 = some ys ∧ OkP K G0 H0 μ (.new (cutD ys lo hi)) Q
theorem slOk : SlR X (rS X.K) := by
  intro pins s σ H x v vl vu lo hi sl Q I rx hs pl pu ⟨G0, H0, G, μ, d1, fp1, ys, h, r1, nd, hB, e, q⟩
  obtain ⟨a, ws, fq, rfl, hq, t, sb⟩ := asL_at h.cells r1 e
  refine sl_list pins s σ H _ v vl vu lo hi sl Q I rx hs pl pu ⟨a, ws, rfl, hq, fun p hp => ?_⟩
  obtain ⟨f1, t1, s1⟩ := t.drop (HT.sIx ys.length 0 lo)
  obtain ⟨f2, t2, s2⟩ := t1.take (HT.sIx ys.length ys.length hi - HT.sIx ys.length 0 lo)
  have e2 : cutV ws lo hi = ((ws.drop (HT.sIx ys.length 0 lo)).take (HT.sIx ys.length ys.length hi - HT.sIx ys.length 0 lo)) := by unfold cutV; rw [t.length]
  rw [e2]
  have sb' := (s2.trans s1).trans sb
  exact q.list h t2 (nd.sublist sb') (fun b hb => hB b (sb'.subset hb)) hp

/-- o[i] = x; after x, o, i are told -/
def rSet (K : PySem.W.Frag) : TSet := fun o i x H Q => ∃ (G0 : Gh) (H0 : Hp) (G : Gh) (μ : Store) (d1 d2 d3 : D) (fp3 fp1 fp2 : List Addr),
  Here K G0 H0 G μ H ∧ Rep K G.F H G.as x d3 fp3 ∧ Rep K G.F H G.as o d1 fp1 ∧ Rep K G.F H G.as i d2 fp2 ∧ (∀ a ∈ fp3, H0 a = none) ∧ ∃ μ', setD μ d1 d2 d3 = .ok () μ' ∧ ∀ G' H', Here K G0 H0 G' μ' H' → Q H'
theorem setOk : PSet X (rSet X.K) := by
  intro pins s σ H o i x ov iv u Q I ro ri rx ⟨G0, H0, G, μ, d1, d2, d3, fp3, fp1, fp2, h, r3, r1, r2, hB, μ', e, q⟩
  unfold setD at e
  split at e
  · rename_i k ys i' hc
    split at e
    · rename_i j hj
      cases e
      cases r2
      obtain ⟨G', h', r', ha⟩ := h.settle r3 hB
      obtain ⟨_, _, _, _, _, _, _, _, rfl⟩ := cell_of h r1 hc
      obtain ⟨a, vs, rfl, hk, hy, hv, rv, _, _⟩ := cell_of h' (ptr_as r1 ha) hc
      refine set_list pins s σ H _ _ x ov iv u Q I ro ri rx ⟨a, vs, _, j, rfl, rfl, hv, by rw [rv.length]; exact hj, q G' _ (h'.cell hk hy ?_)⟩
      exact rv.set0 r' j rfl
    · cases e
  · cases e

/-! ### methods -/
def rM (K : PySem.W.Frag) (f : D → List D → Store → Res D) : V → List V → Hp → VK → Prop := fun x vs H Q => ∃ (G0 : Gh) (H0 : Hp) (G : Gh) (μ : Store) (d1 : D) (ds : List D) (fp1 fp : List Addr),
  Here K G0 H0 G μ H ∧ Rep K G.F H G.as x d1 fp1 ∧ RepL K G.F H G.as vs ds fp ∧ (fp1 ++ fp).Nodup ∧ (∀ a ∈ fp1 ++ fp, H0 a = none) ∧ ∃ d μ', f d1 ds μ = .ok d μ' ∧ OkP K G0 H0 μ' d Q
def meId : Me → String
  | .append => "list.append" | .extend => "list.extend" | .pop => "list.pop" | .index => "list.index" | .count => "list.count" | .insert => "list.insert"
theorem idxP_ok {p : PyData} : ∀ {qs : List PyData} {n j : Nat}, idxP p qs n = some j → n ≤ j ∧ (∃ z, qs[j - n]? = some z ∧ PyData.eqv z p = true) ∧ ∀ (m : Nat) (z : PyData), m < j - n → qs[m]? = some z → PyData.eqv z p = false
  | [], _, _, e => by cases e
  | z :: zs, n, j, e => by
    unfold idxP at e
    split at e
    · rename_i hz
      cases e
      refine ⟨Nat.le_refl _, ⟨z, by simp, hz⟩, fun m w hm => by omega⟩
    · rename_i hz
      obtain ⟨h1, ⟨w, hw, hw2⟩, h3⟩ := idxP_ok e
      refine ⟨by omega, ⟨w, ?_, hw2⟩, fun m w' hm hw' => ?_⟩
      · have e2 : j - n = (j - (n + 1)) + 1 := by omega
        rw [e2]; simpa using hw
      · cases m with
        | zero =>
          simp only [List.getElem?_cons_zero, Option.some.injEq] at hw'
          subst hw'
          exact Bool.eq_false_iff.mpr hz
        | succ m => exact h3 m w' (by omega) (by simpa using hw')
theorem meOk (hu : X.A.units + 65 < cLine) (m : Me) : MtR X (meId m) (rM X.K (meD m)) := by
  intro pins s σ H x vs v us Q I rx rus ⟨G0, H0, G, μ, d1, ds, fp1, fp, h, r1, rs, nd, hB, d, μ', e, q⟩
  cases m with
  | append =>
    have e' := bi1_ok (f := appendD d1) e
    clear e
    obtain ⟨z, rfl, e⟩ := e'
    obtain ⟨y, rfl, ry⟩ := one_of rs
    unfold appendD at e
    split at e
    · rename_i k ys hc
      obtain ⟨hl, e⟩ := ok_bad e
      cases e
      obtain ⟨G', h', r', ha⟩ := h.settle ry fun a z => hB a (List.mem_append_right _ z)
      obtain ⟨_, _, _, _, _, _, _, _, rfl⟩ := cell_of h r1 hc
      obtain ⟨a, ws, rfl, hk, hy, hv, rv, _⟩ := cell_of h' (ptr_as r1 ha) hc
      refine mt_append pins s σ H _ _ v us Q I rx rus ⟨a, ws, y, rfl, rfl, hv, by rw [rv.length]; exact hl, ?_⟩
      exact q.now (h'.cell hk hy (RepL.append (fp := []) (fq := []) rv (RepL.cons (fp := []) (fps := []) r' .nil))) .non
    · cases e
  | extend =>
    have e' := bi1_ok (f := extendD d1) e
    clear e
    obtain ⟨z, rfl, e⟩ := e'
    obtain ⟨y, rfl, ry⟩ := one_of rs
    unfold extendD at e
    split at e
    · rename_i k ys zs hc e1
      obtain ⟨hl, e⟩ := ok_bad e
      cases e
      obtain ⟨b, zvs, fq, rfl, hb, t, sb⟩ := asJ_at h.cells ry e1
      obtain ⟨G', h', t', ha⟩ := h.settleL t fun a z => hB a (List.mem_append_right _ (sb.subset z))
      obtain ⟨_, _, _, _, _, _, _, _, rfl⟩ := cell_of h r1 hc
      obtain ⟨a, ws, rfl, hk, hy, hv, rv, _⟩ := cell_of h' (ptr_as r1 ha) hc
      refine mt_extend pins s σ H _ _ v us Q I rx rus ⟨a, b, ws, zvs, rfl, rfl, hv, hb, by rw [rv.length, t.length]; exact hl, ?_⟩
      exact q.now (h'.cell hk hy (RepL.append (fp := []) (fq := []) rv t')) .non
    · cases e
  | pop =>
    simp only [meD] at e
    split at e
    · cases rs
      unfold pop0D at e
      split at e
      · rename_i k ys hc
        split at e
        · rename_i y hl
          cases e
          obtain ⟨a, ws, rfl, hk, hy, hv, rv, _⟩ := cell_of h r1 hc
          obtain ⟨w, hw, rw'⟩ := rv.get0 hl
          refine mt_pop pins s σ H _ _ v us Q I rx rus ⟨a, ws, w, rfl, rfl, hv, by rw [rv.length]; exact hw, ?_⟩
          have hrep : RepL X.K G.F H G.as ws.dropLast ys.dropLast [] := by
            obtain ⟨fq, t, sb⟩ := rv.take (ws.length - 1)
            have e2 := List.eq_nil_of_sublist_nil sb
            subst e2
            rw [List.dropLast_eq_take, List.dropLast_eq_take, ← rv.length]
            exact t
          exact q.now (h.cell hk hy hrep) (rw'.set (Same.refl _) (fun _ _ z => z) rfl)
        · cases e
      · cases e
    · have e' := bi1_ok (f := popAtD d1) e
      clear e
      obtain ⟨z, rfl, e⟩ := e'
      obtain ⟨yi, rfl, ry⟩ := one_of rs
      unfold popAtD at e
      split at e
      · rename_i k ys i hc _
        split at e
        · rename_i j hj
          split at e
          · rename_i y hl
            cases e
            cases ry
            obtain ⟨a, ws, rfl, hk, hy, hv, rv, _⟩ := cell_of h r1 hc
            obtain ⟨w, hw, rw'⟩ := rv.get0 hl
            obtain ⟨h1, h2, h3, h4⟩ := ixN_seq hj
            have hlen : ys.length ≤ sizeLine := by
              have z := I.hok a _ hv
              rw [← rv.length]
              exact z.1
            have hs := line63
            have hsz : ((sizeLine : Nat) : Int) < 2 ^ 63 := by exact_mod_cast hs
            refine mt_popAt pins s σ H _ _ v us Q I rx rus ⟨a, ws, i, j, w, rfl, rfl, hv, by omega, by omega, by rw [rv.length]; exact h1, hw, ?_⟩
            exact q.now (h.cell hk hy (rv.erase0 j rfl)) (rw'.set (Same.refl _) (fun _ _ z => z) rfl)
          · cases e
        · cases e
      · cases e
  | index =>
    have e' := bi1_ok (f := indexD d1) e
    clear e
    obtain ⟨z, rfl, e⟩ := e'
    obtain ⟨y, rfl, ry⟩ := one_of rs
    unfold indexD at e
    split at e
    · rename_i j hj
      cases e
      unfold idxD at hj
      split at hj
      · rename_i p qs h1 h2
        split at hj
        · rename_i hs
          simp only [Bool.and_eq_true] at hs
          obtain ⟨_, ⟨z, hz, hz2⟩, h3⟩ := idxP_ok hj
          have dl := toP_dp h.cells _ r1 h2
          cases dl with
          | lst hq ha =>
            exact mt_indexD hu pins s σ H _ _ v us Q I rx rus ⟨_, y, p, qs, j, z, rfl, rfl, .lst hq ha, toP_dp h.cells _ ry h1, hs.2, hs.1, by simpa using hz, hz2, fun m z' hm hz' => h3 m z' (by omega) hz', q.now h (.int _)⟩
        · cases hj
      · cases hj
    · cases e
  | count =>
    have e' := bi1_ok (f := countD d1) e
    clear e
    obtain ⟨z, rfl, e⟩ := e'
    obtain ⟨y, rfl, ry⟩ := one_of rs
    unfold countD at e
    split at e
    · rename_i ns k h1
      cases e
      cases ry
      obtain ⟨a, rfl, hq⟩ := ints_at h.cells r1 h1
      exact mt_lcount pins s σ H _ _ v us Q I rx rus ⟨a, ns, k, rfl, rfl, hq, q.now h (.int _)⟩
    · cases e
  | insert => cases e
end
end Pyf

/-! Pyf, part H: readings by trees; each form of an expression. -/
namespace Pyf
open PySem PySem.Spec PyProof.Rows L2
open PySem (Str)

/-- the outcome of a run of the interpreter, since G0, H0 -/
def Out (K : PySem.W.Frag) (mg : Str → Option Value) (G0 : Gh) (H0 : Hp) (W : XK) {α : Type} (P : α → Store → Prop) : Res α → Prop
  | .ok a μ => P a μ
  | .exc c μ => ∀ (G : Gh) (H : Hp), Here K G0 H0 G μ H → ∀ C : Addr, mg c = some (.ref C) → W (.ref C) none H
  | .bad => False
section
variable {K : PySem.W.Frag} {mg : Str → Option Value} {G0 G : Gh} {H0 H : Hp} {W : XK} {μ μ' : Store}
theorem Out.bind {α β : Type} {P : β → Store → Prop} {r : Res α} {f : α → Store → Res β} (h : Out K mg G0 H0 W P (r.bind f)) : Out K mg G0 H0 W (fun a μ => Out K mg G0 H0 W P (f a μ)) r := by
  cases r with
  | ok a μ => exact h
  | exc c μ => exact h
  | bad => exact h
theorem Out.mono {α : Type} {P P' : α → Store → Prop} {r : Res α} (h : Out K mg G0 H0 W P r) (hp : ∀ a μ, P a μ → P' a μ) : Out K mg G0 H0 W P' r := by
  cases r with
  | ok a μ => exact hp a μ h
  | exc c μ => exact h
  | bad => exact h
theorem Out.base {α : Type} {P P' : α → Store → Prop} {r : Res α} (h : Out K mg G0 H0 W P r) (x : Here K G0 H0 G μ H) (hp : ∀ a μ, P a μ → P' a μ) : Out K mg G H W P' r := by
  cases r with
  | ok a μ => exact hp a μ h
  | exc c μ => exact fun G' H' x' C hC => h G' H' (x.go x') C hC
  | bad => exact h
theorem Out.ofO {α : Type} {P : α → Store → Prop} {o : Option α} (h : Out K mg G0 H0 W P (Res.ofO o μ)) : ∃ a, o = some a ∧ P a μ := by
  cases o with
  | none => exact h.elim
  | some a => exact ⟨a, rfl, h⟩
/-- what never raises -/
def NoX {α : Type} (r : Res α) : Prop := ∀ c μ, r ≠ .exc c μ
theorem Out.ok {α : Type} {P : α → Store → Prop} {r : Res α} (h : Out K mg G0 H0 W P r) (n : NoX r) : ∃ a μ, r = .ok a μ ∧ P a μ := by
  cases r with
  | ok a μ => exact ⟨a, μ, rfl, h⟩
  | exc c μ => exact absurd rfl (n c μ)
  | bad => exact h.elim
end
/-- an exception's wish, at slots -/
abbrev atS (W : WX) (σ : L2.St) : XK := fun c d H => W c d σ H

def TEv (K : PySem.W.Frag) (mg : Str → Option Value) (W : WX) (m : Slots → Store → Res D) : TE := fun σ H Q => ∃ (G : Gh) (ρ : Slots) (μ : Store), Rel K G ρ μ σ H ∧ Out K mg G H (atS W σ) (fun d μ' => OkP K G H μ' d Q) (m ρ μ)
def TTv (K : PySem.W.Frag) (mg : Str → Option Value) (W : WX) (m : Slots → Store → Res Bool) : TT := fun σ H Q => ∃ (G : Gh) (ρ : Slots) (μ : Store), Rel K G ρ μ σ H ∧ Out K mg G H (atS W σ) (fun b μ' => ∀ G' H', Here K G H G' μ' H' → Q b H') (m ρ μ)
def TAv (K : PySem.W.Frag) (mg : Str → Option Value) (W : WX) (m : Slots → Store → Res (List D)) : TA := fun σ H Q => ∃ (G : Gh) (ρ : Slots) (μ : Store), Rel K G ρ μ σ H ∧ Out K mg G H (atS W σ) (fun d μ' => OkPL K G H μ' d Q) (m ρ μ)

theorem PE.weak {X : Cx} {e : Expr} {t t' : TE} (h : PE X e t) (w : ∀ σ H Q, t' σ H Q → t σ H Q) : PE X e t' := ⟨fun pins s σ H Q I hq => h.run pins s σ H Q I (w σ H Q hq)⟩
theorem PT.weak {X : Cx} {e : Expr} {t t' : TT} (h : PT X e t) (w : ∀ σ H Q, t' σ H Q → t σ H Q) : PT X e t' := ⟨fun pins s σ H Q I hq => h.run pins s σ H Q I (w σ H Q hq)⟩
theorem PA.weak {X : Cx} {e : List Expr} {t t' : TA} (h : PA X e t) (w : ∀ σ H Q, t' σ H Q → t σ H Q) : PA X e t' := ⟨fun pos pins s σ H Q I hq => h.run pos pins s σ H Q I (w σ H Q hq)⟩

theorem Rel.here {K : PySem.W.Frag} {G : Gh} {ρ : Slots} {μ : Store} {σ : L2.St} {H : Hp} (r : Rel K G ρ μ σ H) : Here K G H G μ H := Here.start r.cells
theorem Rel.go {K : PySem.W.Frag} {G G' : Gh} {ρ : Slots} {μ μ' : Store} {σ : L2.St} {H H' : Hp} (r : Rel K G ρ μ σ H) (h : Here K G H G' μ' H') : Rel K G' ρ μ' σ H' := r.ext h.ext h.cells
theorem new_nodup {K : PySem.W.Frag} {F H1 : Hp} {as fp1 fp2 : List Addr} {v : V} {d : D} (r : Rep K F H1 as v d fp1) (n1 : fp1.Nodup) (n2 : fp2.Nodup) (h2 : ∀ a ∈ fp2, H1 a = none) : (fp1 ++ fp2).Nodup :=
  List.nodup_append.mpr ⟨n1, n2, fun a ha b hb e => by
    subst e
    obtain ⟨_, _, o, q⟩ := r.out a ha
    rw [h2 a hb] at q; cases q⟩

/-- TWO PARTS IN A ROW -/
theorem two_in {K : PySem.W.Frag} {mg : Str → Option Value} {W : WX} {ma mb : Slots → Store → Res D} {f : D → D → Store → Res D} {σ : L2.St} {H : Hp} {Q : VK} {R : V → V → Hp → Prop}
    (h : TEv K mg W (fun ρ μ => (ma ρ μ).bind fun x μ1 => (mb ρ μ1).bind fun y μ2 => f x y μ2) σ H Q)
    (k : ∀ (G0 : Gh) (G : Gh) (H2 : Hp) (μ : Store) (d1 d2 : D) (fp1 fp2 : List Addr) (x y : V), Here K G0 H G μ H2 → Rep K G.F H2 G.as x d1 fp1 → Rep K G.F H2 G.as y d2 fp2 → (fp1 ++ fp2).Nodup → (∀ a ∈ fp1 ++ fp2, H a = none) →
      Out K mg G0 H (atS W σ) (fun d μ' => OkP K G0 H μ' d Q) (f d1 d2 μ) → R x y H2) :
    TEv K mg W ma σ H fun x H1 => TEv K mg W mb σ H1 fun y H2 => R x y H2 := by
  obtain ⟨G, ρ, μ, rel, o⟩ := h
  refine ⟨G, ρ, μ, rel, (Out.bind o).mono fun d1 μ1 o1 => ?_⟩
  intro G1 H1 x fp1 h1 r1 n1 b1
  refine ⟨G1, ρ, μ1, rel.go h1, (Out.bind o1).base h1 fun d2 μ2 o2 => ?_⟩
  intro G2 H2 y fp2 h2 r2 n2 b2
  refine k G G2 H2 μ2 d1 d2 fp1 fp2 x y (h1.go h2) (r1.mono h2.ext) r2 (new_nodup r1 n1 n2 b2) (fun a ha => ?_) o2
  rcases List.mem_append.mp ha with ha | ha
  · exact b1 a ha
  · exact h1.ext.none (b2 a ha)
theorem one_in {K : PySem.W.Frag} {mg : Str → Option Value} {W : WX} {ma : Slots → Store → Res D} {α : Type} {P : Gh → Hp → α → Store → Prop} {f : D → Store → Res α} {σ : L2.St} {H : Hp} {R : V → Hp → Prop}
    (h : ∃ (G : Gh) (ρ : Slots) (μ : Store), Rel K G ρ μ σ H ∧ Out K mg G H (atS W σ) (P G H) ((ma ρ μ).bind f))
    (k : ∀ (G0 : Gh) (ρ : Slots) (G : Gh) (H2 : Hp) (μ : Store) (d1 : D) (fp1 : List Addr) (x : V), Rel K G ρ μ σ H2 → Here K G0 H G μ H2 → Rep K G.F H2 G.as x d1 fp1 → fp1.Nodup → (∀ a ∈ fp1, H a = none) →
      Out K mg G0 H (atS W σ) (P G0 H) (f d1 μ) → R x H2) :
    TEv K mg W ma σ H R := by
  obtain ⟨G, ρ, μ, rel, o⟩ := h
  refine ⟨G, ρ, μ, rel, (Out.bind o).mono fun d1 μ1 o1 => ?_⟩
  intro G1 H1 x fp1 h1 r1 n1 b1
  exact k G ρ G1 H1 μ1 d1 fp1 x (rel.go h1) h1 r1 n1 b1 o1

/-! ### what never raises -/
theorem nox_bind {α β : Type} {r : Res α} {f : α → Store → Res β} (h : NoX r) (k : ∀ a μ, NoX (f a μ)) : NoX (r.bind f) := by
  cases r with
  | ok a μ => exact k a μ
  | exc c μ => exact absurd rfl (h c μ)
  | bad => exact fun _ _ e => by cases e
theorem nox_ok {α : Type} (a : α) (μ : Store) : NoX (Res.ok a μ) := fun _ _ e => by cases e
theorem nox_bad {α : Type} : NoX (Res.bad : Res α) := fun _ _ e => by cases e
theorem nox_ite {α : Type} {p : Prop} [Decidable p] {r r' : Res α} (h : NoX r) (h' : NoX r') : NoX (if p then r else r') := by split <;> assumption
theorem nox_catL (μ : Store) (x y : D) : NoX (catL μ x y) := by
  unfold catL
  split
  · exact nox_ite (nox_ok _ _) nox_bad
  · exact nox_bad
theorem nox_repL (μ : Store) (x : D) (k : Int) : NoX (repL μ x k) := by
  unfold repL
  split
  · exact nox_ite (nox_ok _ _) nox_bad
  · exact nox_bad
theorem nox_binD (o : Op) (x y : D) (μ : Store) : NoX (binD o x y μ) := by
  cases o <;> simp only [binD] <;> (repeat' split) <;> first | exact nox_ok _ _ | exact nox_bad | exact nox_catL _ _ _ | exact nox_repL _ _ _
theorem nox_ixD (μ : Store) (x i : D) : NoX (ixD μ x i) := by
  unfold ixD
  (repeat' split) <;> first | exact nox_ok _ _ | exact nox_bad
theorem nox_slD (μ : Store) (x : D) (l h : Option Int) : NoX (slD μ x l h) := by
  unfold slD
  (repeat' split) <;> first | exact nox_ok _ _ | exact nox_bad
theorem nox_setD (μ : Store) (x l h : D) : NoX (setD μ x l h) := by
  unfold setD
  (repeat' split) <;> first | exact nox_ok _ _ | exact nox_bad
theorem nox_negD (x : D) (μ : Store) : NoX (negD x μ) := by
  unfold negD
  (repeat' split) <;> first | exact nox_ok _ _ | exact nox_bad
theorem nox_notD (x : D) (μ : Store) : NoX (notD x μ) := by
  unfold notD
  (repeat' split) <;> first | exact nox_ok _ _ | exact nox_bad
theorem nox_ofO {α : Type} (o : Option α) (μ : Store) : NoX (Res.ofO o μ) := by
  cases o
  · exact nox_bad
  · exact nox_ok _ _
theorem nox_bi1 {f : D → Store → Res D} (h : ∀ x μ, NoX (f x μ)) (xs : List D) (μ : Store) : NoX (bi1 f xs μ) := by
  unfold bi1
  split
  · exact h _ _
  · exact nox_bad
theorem nox_bi2 {f : D → D → Store → Res D} (h : ∀ x y μ, NoX (f x y μ)) (xs : List D) (μ : Store) : NoX (bi2 f xs μ) := by
  unfold bi2
  split
  · exact h _ _ _
  · exact nox_bad
theorem nox_biD (b : Bi) (xs : List D) (μ : Store) : NoX (biD b xs μ) := by
  cases b
  case len => exact nox_bi1 (fun x μ => by unfold lenD; (repeat' split) <;> first | exact nox_ok _ _ | exact nox_bad) xs μ
  case sum => exact nox_bi1 (fun x μ => by unfold sumD; (repeat' split) <;> first | exact nox_ok _ _ | exact nox_bad) xs μ
  case abs => exact nox_bi1 (fun x μ => by unfold absD; (repeat' split) <;> first | exact nox_ok _ _ | exact nox_bad) xs μ
  case all => exact nox_bi1 (fun x μ => by unfold allD; (repeat' split) <;> first | exact nox_ok _ _ | exact nox_bad) xs μ
  case any => exact nox_bi1 (fun x μ => by unfold anyD; (repeat' split) <;> first | exact nox_ok _ _ | exact nox_bad) xs μ
  case int => exact nox_bi1 (fun x μ => by unfold intD; (repeat' split) <;> first | exact nox_ok _ _ | exact nox_bad) xs μ
  case max1 => exact nox_bi1 (fun x μ => by unfold max1D; (repeat' split) <;> first | exact nox_ok _ _ | exact nox_bad) xs μ
  case min1 => exact nox_bi1 (fun x μ => by unfold min1D; (repeat' split) <;> first | exact nox_ok _ _ | exact nox_bad) xs μ
  case max2 => exact nox_bi2 (fun x y μ => by unfold max2D; (repeat' split) <;> first | exact nox_ok _ _ | exact nox_bad) xs μ
  case min2 => exact nox_bi2 (fun x y μ => by unfold min2D; (repeat' split) <;> first | exact nox_ok _ _ | exact nox_bad) xs μ
  case list => exact nox_bi1 (fun x μ => by unfold listD; (repeat' split) <;> first | exact nox_ok _ _ | exact nox_bad) xs μ
  case tuple => exact nox_bi1 (fun x μ => by unfold tupleD; (repeat' split) <;> first | exact nox_ok _ _ | exact nox_bad) xs μ
  case repr => exact nox_bi1 (fun x μ => by unfold reprD; (repeat' split) <;> first | exact nox_ok _ _ | exact nox_bad) xs μ
  case str => exact nox_bi1 (fun x μ => by unfold strD; (repeat' split) <;> first | exact nox_ok _ _ | exact nox_bad) xs μ
  case divmod => exact nox_bi2 (fun x y μ => by unfold divmodD; (repeat' split) <;> first | exact nox_ok _ _ | exact nox_bad) xs μ
  case sorted => exact nox_bi1 (fun x μ => by unfold sortD; (repeat' split) <;> first | exact nox_ok _ _ | exact nox_bad) xs μ
theorem nox_meD (m : Me) (o : D) (xs : List D) (μ : Store) : NoX (meD m o xs μ) := by
  cases m
  case append => exact nox_bi1 (fun x μ => by unfold appendD; (repeat' split) <;> first | exact nox_ok _ _ | exact nox_bad) xs μ
  case extend => exact nox_bi1 (fun x μ => by unfold extendD; (repeat' split) <;> first | exact nox_ok _ _ | exact nox_bad) xs μ
  case pop =>
    simp only [meD]
    split
    · unfold pop0D; (repeat' split) <;> first | exact nox_ok _ _ | exact nox_bad
    · exact nox_bi1 (fun x μ => by unfold popAtD; (repeat' split) <;> first | exact nox_ok _ _ | exact nox_bad) _ μ
  case index => exact nox_bi1 (fun x μ => by unfold indexD; (repeat' split) <;> first | exact nox_ok _ _ | exact nox_bad) xs μ
  case count => exact nox_bi1 (fun x μ => by unfold countD; (repeat' split) <;> first | exact nox_ok _ _ | exact nox_bad) xs μ
  case insert => exact nox_bad

/-! ### the forms -/
section
variable {X : Cx} {W : WX} {pos : Pos} {pa pb pc : Expr} {a b c : E}
abbrev SE (X : Cx) (W : WX) (pe : Expr) (m : Slots → Store → Res D) : Prop := PE X pe (TEv X.K X.mg W m)
abbrev ST (X : Cx) (W : WX) (pe : Expr) (m : Slots → Store → Res Bool) : Prop := PT X pe (TTv X.K X.mg W m)
abbrev SA (X : Cx) (W : WX) (pe : List Expr) (m : Slots → Store → Res (List D)) : Prop := PA X pe (TAv X.K X.mg W m)

theorem s_var {i : Nat} {x : Str} (hN : X.N[i]? = some x) (hv : Vis X.env.scope x) (hd : (x == ("__debug__" : Str)) = false) (hcd : (x == ("__classdict__" : Str)) = false) : SE X W (.Name x pos) (ev (.v i)).e := by
  refine PE.weak (pe_var hN hv hd hcd) fun σ H Q ⟨G, ρ, μ, rel, o⟩ => ?_
  simp only [ev, P.of] at o
  split at o
  · rename_i d hd
    obtain ⟨v, h1, h2⟩ := rel.env i d hd
    exact ⟨v, h1, OkP.now o rel.here h2⟩
  · exact o.elim
theorem s_int {i : Int} {j : Nat} : SE X W (.Constant (.int i) j pos) (ev (.k (.int i))).e := PE.weak pe_int fun σ H Q ⟨G, ρ, μ, rel, o⟩ => OkP.now o rel.here (.int i)
theorem s_bl {i : Bool} {j : Nat} : SE X W (.Constant (.bool i) j pos) (ev (.k (.bl i))).e := PE.weak pe_bl fun σ H Q ⟨G, ρ, μ, rel, o⟩ => OkP.now o rel.here (.bl i)
theorem s_non {j : Nat} : SE X W (.Constant .none j pos) (ev (.k .non)).e := PE.weak pe_non fun σ H Q ⟨G, ρ, μ, rel, o⟩ => OkP.now o rel.here .non
theorem s_str {i : Str} {j : Nat} : SE X W (.Constant (.str i) j pos) (ev (.k (.str i))).e := PE.weak pe_str fun σ H Q ⟨G, ρ, μ, rel, o⟩ => OkP.now o rel.here (.str i)
/-- a constant of the module -/
inductive Sc : V → D → Prop where
  | int (i : Int) : Sc (.int i) (.int i)
  | str (s : Str) : Sc (.str s) (.str s)
theorem s_glob {x : Str} {d : D} {v : V} {u : Value} (hg : Gl X x) (hm : X.mg x = some u) (r : RelV v u) (sc : Sc v d) (hd : (x == ("__debug__" : Str)) = false) : SE X W (.Name x pos) (ev (.g x d)).e := by
  refine PE.weak (pe_glob hg hm r hd) fun σ H Q ⟨G, ρ, μ, rel, o⟩ => ?_
  cases sc with
  | int i => exact OkP.now o rel.here (.int i)
  | str s => exact OkP.now o rel.here (.str s)
theorem s_bin (o : Op) (ha : SE X W pa (ev a).e) (hb : SE X W pb (ev b).e) : SE X W (.BinOp pa (opOf o) pb pos) (ev (.bin o a b)).e :=
  PE.weak (pe_op (opV o) ha hb) fun σ H Q h => two_in (f := binD o) h fun G0 G H2 μ d1 d2 fp1 fp2 x y hh r1 r2 nd hB out => by
    obtain ⟨d, μ', e, q⟩ := out.ok (nox_binD o d1 d2 μ)
    exact ⟨G0, H, G, μ, d1, d2, fp1, fp2, hh, r1, r2, nd, hB, d, μ', e, q⟩
theorem s_ix (ha : SE X W pa (ev a).e) (hb : SE X W pb (ev b).e) (hp : PlainIx pb) : SE X W (.Subscript pa pb pos) (ev (.ix a b)).e :=
  PE.weak (pe_ix ixOk ha hb hp) fun σ H Q h => two_in (f := ixV) h fun G0 G H2 μ d1 d2 fp1 fp2 x y hh r1 r2 nd hB out => by
    obtain ⟨d, μ', e, q⟩ := out.ok (nox_ixD μ d1 d2)
    exact ⟨G0, H, G, μ, d1, d2, fp1, fp2, hh, r1, r2, nd, hB, d, μ', e, q⟩
theorem s_neg (ha : SE X W pa (ev a).e) : SE X W (.UnaryOp .USub pa pos) (ev (.neg a)).e :=
  PE.weak (pe_un un_neg ha) fun σ H Q h => one_in (P := fun G H d μ' => OkP X.K G H μ' d Q) (f := negD) h fun G0 ρ G H2 μ d1 fp1 x rel hh r1 nd hB out => by
    obtain ⟨d, μ', e, q⟩ := out.ok (nox_negD d1 μ)
    unfold negD at e
    split at e
    · cases e; cases r1
      exact ⟨_, rfl, OkP.now q hh (.int _)⟩
    · cases e
theorem s_nt (ha : SE X W pa (ev a).e) : SE X W (.UnaryOp .Not pa pos) (ev (.nt a)).e :=
  PE.weak (pe_not ha) fun σ H Q h => one_in (P := fun G H d μ' => OkP X.K G H μ' d Q) (f := notD) h fun G0 ρ G H2 μ d1 fp1 x rel hh r1 nd hB out => by
    obtain ⟨d, μ', e, q⟩ := out.ok (nox_notD d1 μ)
    unfold notD at e
    split at e
    · cases e; cases r1
      exact ⟨_, rfl, OkP.now q hh (.bl _)⟩
    · cases e
theorem t_nt (ha : ST X W pa (ev a).t) : ST X W (.UnaryOp .Not pa pos) (ev (.nt a)).t :=
  PT.weak (pt_not ha) fun σ H Q ⟨G, ρ, μ, rel, o⟩ => ⟨G, ρ, μ, rel, (Out.bind o).mono fun b μ1 o1 G' H' h => o1 G' H' h⟩
/-- a test by the truth of a value -/
theorem t_of {pe : Expr} {m : Slots → Store → Res D} (he : SE X W pe m) (hp : ∀ whole, isTrue pe X.env whole = (do let v ← whole; standAt pe.pos; holding [v] (truthy v))) : ST X W pe (P.of m).t :=
  PT.weak (pt_truth he hp) fun σ H Q h => one_in (P := fun G H b μ' => ∀ G' H', Here X.K G H G' μ' H' → Q b H') (f := fun x μ1 => Res.ofO (truD μ1 x) μ1) h fun G0 ρ G H2 μ d1 fp1 x rel hh r1 nd hB out => by
    obtain ⟨b, e, q⟩ := out.ofO
    exact ⟨b, truV_of hh.cells r1 e, q G H2 hh⟩
theorem s_ite (hc : ST X W pc (ev c).t) (ha : SE X W pa (ev a).e) (hb : SE X W pb (ev b).e) : SE X W (.IfExp pc pa pb pos) (ev (.ite c a b)).e :=
  PE.weak (pe_ifExp hc ha hb) fun σ H Q ⟨G, ρ, μ, rel, o⟩ => ⟨G, ρ, μ, rel, (Out.bind o).mono fun t μ1 o1 G1 H1 h1 => by
    have key : ∀ {m : Slots → Store → Res D}, Out X.K X.mg G H (atS W σ) (fun d μ' => OkP X.K G H μ' d Q) (m ρ μ1) → TEv X.K X.mg W m σ H1 Q := fun o2 =>
      ⟨G1, ρ, μ1, rel.go h1, o2.base h1 fun d μ2 q G2 H2 v fp h2 r n b => q G2 H2 v fp (h1.go h2) r n fun a z => h1.ext.none (b a z)⟩
    cases t with
    | true => exact key o1
    | false => exact key o1⟩
theorem t_ite (hc : ST X W pc (ev c).t) (ha : ST X W pa (ev a).t) (hb : ST X W pb (ev b).t) : ST X W (.IfExp pc pa pb pos) (ev (.ite c a b)).t := by
  refine ⟨fun pins s σ H Q I ⟨G, ρ, μ, rel, o⟩ => ?_⟩
  show wpAny _ _ (do if ← isTrue pc X.env (eval pc X.env) then isTrue pa X.env (eval pa X.env) else isTrue pb X.env (eval pb X.env)) _ _ s
  refine wpAny_bind (thn (hc.run pins s σ H (fun t H1 => ∃ G1 μ1, Here X.K G H G1 μ1 H1 ∧ Out X.K X.mg G H (atS W σ) (fun b μ' => ∀ G' H', Here X.K G H G' μ' H' → Q b H') (if t = true then (ev a).t ρ μ1 else (ev b).t ρ μ1)) I ⟨G, ρ, μ, rel, (Out.bind o).mono fun t μ1 o1 G1 H1 h1 => ⟨G1, μ1, h1, o1⟩⟩) fun t s1 ⟨H1, I1, G1, μ1, h1, o1⟩ => ?_)
  have key : ∀ {m : Slots → Store → Res Bool}, Out X.K X.mg G H (atS W σ) (fun b μ' => ∀ G' H', Here X.K G H G' μ' H' → Q b H') (m ρ μ1) → TTv X.K X.mg W m σ H1 Q := fun o2 =>
    ⟨G1, ρ, μ1, rel.go h1, o2.base h1 fun d μ2 q G2 H2 h2 => q G2 H2 (h1.go h2)⟩
  cases t with
  | true => exact ha.run pins s1 σ H1 Q I1 (key o1)
  | false => exact hb.run pins s1 σ H1 Q I1 (key o1)
end
end Pyf

/-! Pyf, part I: arguments, displays, built-ins, chains, and, or. -/
namespace Pyf
open PySem PySem.Spec PyProof.Rows L2
open PySem (Str)

def notStar : Expr → Bool
  | .Starred _ _ => false
  | _ => true
def notSet : Expr → Bool
  | .Set _ _ _ => false
  | _ => true
theorem star_cons {pe : Expr} {pes : List Expr} {env : Env} (h : notStar pe = true) : starEach (pe :: pes) env = (false, eval pe env) :: starEach pes env := by
  cases pe <;> first | rfl | cases h
theorem star_plain {pos : Pos} {env : Env} : ∀ {pes : List Expr}, pes.all notStar = true → (backTo pos (starEach pes env)).any (·.1) = false
  | [], _ => rfl
  | pe :: pes, h => by
    rw [List.all_cons, Bool.and_eq_true] at h
    rw [star_cons h.1]
    show (false || (backTo pos (starEach pes env)).any (·.1)) = false
    rw [star_plain h.2]; rfl
theorem noSet {pe : Expr} {op : CmpOp} (h : notSet pe = true) : behindInMarks op pe = false := by
  cases pe <;> first | rfl | cases h

theorem repl_nodup {K : PySem.W.Frag} {F H1 : Hp} {as fp1 fp2 : List Addr} {vs : List V} {ds : List D} (r : RepL K F H1 as vs ds fp1) (n1 : fp1.Nodup) (n2 : fp2.Nodup) (h2 : ∀ a ∈ fp2, H1 a = none) : (fp1 ++ fp2).Nodup :=
  List.nodup_append.mpr ⟨n1, n2, fun a ha b hb e => by
    subst e
    obtain ⟨_, _, o, q⟩ := r.out a ha
    rw [h2 a hb] at q; cases q⟩

section
variable {X : Cx} {W : WX} {pos : Pos} {pe pa pb pc : Expr} {pes : List Expr} {a b c e : E} {es : Es}
theorem s_nil : SA X W [] (evs .nil) := PA.weak pa_nil fun σ H Q ⟨G, ρ, μ, rel, o⟩ => o G H [] [] rel.here .nil List.nodup_nil (by simp)
theorem s_cons (hs : notStar pe = true) (ha : SE X W pe (ev e).e) (hr : SA X W pes (evs es)) : SA X W (pe :: pes) (evs (.cons e es)) :=
  PA.weak (pa_cons ha hr (star_cons hs)) fun σ H Q ⟨G, ρ, μ, rel, o⟩ => by
    refine ⟨G, ρ, μ, rel, (Out.bind o).mono fun d1 μ1 o1 => ?_⟩
    intro G1 H1 x fp1 h1 r1 n1 b1
    refine ⟨G1, ρ, μ1, rel.go h1, (Out.bind o1).base h1 fun ds μ2 o2 => ?_⟩
    intro G2 H2 xs fp2 h2 r2 n2 b2
    refine o2 G2 H2 (x :: xs) (fp1 ++ fp2) (h1.go h2) (.cons (r1.mono h2.ext) r2) (new_nodup r1 n1 n2 b2) fun a ha => ?_
    rcases List.mem_append.mp ha with ha | ha
    · exact b1 a ha
    · exact h1.ext.none (b2 a ha)
theorem list_in {K : PySem.W.Frag} {mg : Str → Option Value} {m : Slots → Store → Res (List D)} {α : Type} {P : Gh → Hp → α → Store → Prop} {f : List D → Store → Res α} {σ : L2.St} {H : Hp} {R : List V → Hp → Prop}
    (h : ∃ (G : Gh) (ρ : Slots) (μ : Store), Rel K G ρ μ σ H ∧ Out K mg G H (atS W σ) (P G H) ((m ρ μ).bind f))
    (k : ∀ (G0 : Gh) (ρ : Slots) (G : Gh) (H2 : Hp) (μ : Store) (ds : List D) (fp : List Addr) (vs : List V), Rel K G ρ μ σ H2 → Here K G0 H G μ H2 → RepL K G.F H2 G.as vs ds fp → fp.Nodup → (∀ a ∈ fp, H a = none) →
      Out K mg G0 H (atS W σ) (P G0 H) (f ds μ) → R vs H2) :
    TAv K mg W m σ H R := by
  obtain ⟨G, ρ, μ, rel, o⟩ := h
  refine ⟨G, ρ, μ, rel, (Out.bind o).mono fun d1 μ1 o1 => ?_⟩
  intro G1 H1 x fp1 h1 r1 n1 b1
  exact k G ρ G1 H1 μ1 d1 fp1 x (rel.go h1) h1 r1 n1 b1 o1
theorem s_lst (ha : SA X W pes (evs es)) : SE X W (.List pes pos) (ev (.lst es)).e :=
  PE.weak (pe_lst ha) fun σ H Q h => list_in (P := fun G H d μ' => OkP X.K G H μ' d Q) (f := fun xs μ1 => if xs.length ≤ sizeLine then .ok (.new xs) μ1 else .bad) h fun G0 ρ G H2 μ ds fp vs rel hh r nd hB out => by
    obtain ⟨d, μ', e, q⟩ := out.ok (nox_ite (nox_ok _ _) nox_bad)
    obtain ⟨hl, e⟩ := ok_bad e
    cases e
    exact ⟨by rw [r.length]; exact hl, fun p hp => q.list hh r nd hB hp⟩
theorem s_tup {k : Nat} (ha : SA X W pes (evs es)) : SE X W (.Tuple pes k pos) (ev (.tup es)).e :=
  PE.weak (pe_tup ha) fun σ H Q h => list_in (P := fun G H d μ' => OkP X.K G H μ' d Q) (f := fun xs μ1 => if xs.length ≤ sizeLine then .ok (.tup xs) μ1 else .bad) h fun G0 ρ G H2 μ ds fp vs rel hh r nd hB out => by
    obtain ⟨d, μ', e, q⟩ := out.ok (nox_ite (nox_ok _ _) nox_bad)
    obtain ⟨hl, e⟩ := ok_bad e
    cases e
    exact ⟨by rw [r.length]; exact hl, fun p hp => q.tuple hh r nd hB hp⟩

/-! ### built-ins by their names -/
theorem s_bi {x : Str} {p : Pos} (b : Bi) (hc : X.calm = true) (hgd : X.A.guards = some []) (hu : X.A.units + 65 < cLine) (hx : x = biName b) (hg : Gl X x) (hm : X.mg x = none) (hs : (pe :: pes).all notStar = true) (ha : SA X W (pe :: pes) (evs es)) :
    SE X W (.Call (.Name x p) (pe :: pes) [] pos) (ev (.bi b es)).e := by
  have st : starEach (pe :: pes) X.env = (false, eval pe X.env) :: starEach pes X.env := star_cons (by rw [List.all_cons, Bool.and_eq_true] at hs; exact hs.1)
  have pl : (backTo pos (starEach pes X.env)).any (·.1) = false := star_plain (by rw [List.all_cons, Bool.and_eq_true] at hs; exact hs.2)
  have fin : ∀ {r : List V → Hp → VK → Prop}, (r = rB X.K (biD b)) → PE X (.Call (.Name x p) (pe :: pes) [] pos) (tCB r (TAv X.K X.mg W (evs es))) → SE X W (.Call (.Name x p) (pe :: pes) [] pos) (ev (.bi b es)).e := fun hr h => by
    subst hr
    exact PE.weak h fun σ H Q h => list_in (P := fun G H d μ' => OkP X.K G H μ' d Q) (f := biD b) h fun G0 ρ G H2 μ ds fp vs rel hh r nd hB out => by
      obtain ⟨d, μ', e, q⟩ := out.ok (nox_biD b ds μ)
      exact ⟨G0, H, G, μ, ds, fp, hh, r, nd, hB, d, μ', e, q⟩
  subst hx
  have V := biV (X := X) hc hgd hu b
  cases b with
  | len => exact fin rfl (pe_callB V hg hm boot_len ha (by decide) (by decide) st pl)
  | sum => exact fin rfl (pe_callB V hg hm boot_sum ha (by decide) (by decide) st pl)
  | abs => exact fin rfl (pe_callB V hg hm (by decide +kernel) ha (by decide) (by decide) st pl)
  | all => exact fin rfl (pe_callB V hg hm boot_all ha (by decide) (by decide) st pl)
  | any => exact fin rfl (pe_callB V hg hm boot_any ha (by decide) (by decide) st pl)
  | int => exact fin rfl (pe_callTy V hg hm boot_int ha (by decide) (by decide) st pl)
  | max1 => exact fin rfl (pe_callB V hg hm boot_max ha (by decide) (by decide) st pl)
  | min1 => exact fin rfl (pe_callB V hg hm boot_min ha (by decide) (by decide) st pl)
  | max2 => exact fin rfl (pe_callB V hg hm boot_max ha (by decide) (by decide) st pl)
  | min2 => exact fin rfl (pe_callB V hg hm boot_min ha (by decide) (by decide) st pl)
  | list => exact fin rfl (pe_callTy V hg hm boot_list ha (by decide) (by decide) st pl)
  | tuple => exact fin rfl (pe_callTy V hg hm boot_tuple ha (by decide) (by decide) st pl)
  | repr => exact fin rfl (pe_callB V hg hm boot_repr ha (by decide) (by decide) st pl)
  | str => exact fin rfl (pe_callTy V hg hm boot_str ha (by decide) (by decide) st pl)
  | divmod => exact fin rfl (pe_callB V hg hm boot_divmod ha (by decide) (by decide) st pl)
  | sorted => exact fin rfl (pe_callB V hg hm boot_sorted ha (by decide) (by decide) st pl)

/-! ### isinstance -/
def tyS : Ty → String
  | .int => "int" | .bool => "bool" | .str => "str" | .list => "list" | .tuple => "tuple"
theorem boot_ty (T : Ty) : bootBuiltins (tyS T : Str) = some (.type (tyS T)) := by cases T <;> decide +kernel
theorem kit_none (T : Ty) : kitB "NoneType" (tyS T) = some false := by cases T <;> decide +kernel
theorem kit_bool (T : Ty) : kitB "bool" (tyS T) = some (T == .bool || T == .int) := by cases T <;> decide +kernel
theorem kit_int (T : Ty) : kitB "int" (tyS T) = some (T == .int) := by cases T <;> decide +kernel
theorem kit_str (T : Ty) : kitB "str" (tyS T) = some (T == .str) := by cases T <;> decide +kernel
theorem kit_list (T : Ty) : kitB "list" (tyS T) = some (T == .list) := by cases T <;> decide +kernel
theorem kit_tuple (T : Ty) : kitB "tuple" (tyS T) = some (T == .tuple) := by cases T <;> decide +kernel
theorem ty_of {K : PySem.W.Frag} {G : Gh} {H : Hp} {μ : Store} {x : V} {d : D} {fp : List Addr} (c : Cells K G μ H) (r : Rep K G.F H G.as x d fp) (h : ∃ T b, hasTy μ T d = some b) : ∃ t : String, TyX K H x (.type t) ∧ ∀ T b, hasTy μ T d = some b → kitB t (tyS T) = some b := by
  cases r with
  | non => exact ⟨_, .base .non, fun T b e => by rw [kit_none, ← e]; rfl⟩
  | bl y => exact ⟨_, .base (.bl y), fun T b e => by rw [kit_bool, ← e]; rfl⟩
  | int y => exact ⟨_, .base (.int y), fun T b e => by rw [kit_int, ← e]; rfl⟩
  | str y => exact ⟨_, .base (.str y), fun T b e => by rw [kit_str, ← e]; rfl⟩
  | scr ns hq =>
    refine ⟨"list", ?_, fun T b e => by rw [kit_list, ← e]; rfl⟩
    rcases sqL_mono c.same hq with (hq | ⟨o, hq⟩) | ⟨o, its, n, h1, h2, _⟩
    · exact .base (.lst hq)
    · exact .base (.frz hq)
    · exact .kList h1 h2
  | lst hq _ => exact ⟨_, .base (.lst (c.same _ _ hq)), fun T b e => by rw [kit_list, ← e]; rfl⟩
  | tup hq _ => exact ⟨_, .base (.tup (c.same _ _ hq)), fun T b e => by rw [kit_tuple, ← e]; rfl⟩
  | new _ _ hq _ => exact ⟨_, .base (.lst hq), fun T b e => by rw [kit_list, ← e]; rfl⟩
  | ntup _ _ hq _ => exact ⟨_, .base (.tup hq), fun T b e => by rw [kit_tuple, ← e]; rfl⟩
  | ptr hk =>
    rename_i a k
    obtain ⟨T0, b0, e0⟩ := h
    simp only [hasTy] at e0
    split at e0
    · rename_i zs hz
      obtain ⟨_, vs, hv, _⟩ := c.lst k a _ hk hz
      exact ⟨_, .base (.lst hv), fun T b e => by
        simp only [hasTy, hz] at e
        rw [kit_list, ← e]⟩
    · cases e0
theorem s_isi1 {x y : Str} {p p2 : Pos} {T : Ty} (hx : x = "isinstance") (hy : y = (tyS T : Str)) (hg : Gl X x) (hm : X.mg x = none) (hg2 : Gl X y) (hm2 : X.mg y = none) (hs : notStar pa = true) (ha : SE X W pa (ev a).e) :
    SE X W (.Call (.Name x p) [pa, .Name y p2] [] pos) (ev (.isi a [T] true)).e := by
  subst hx; subst hy
  have hT : PE X (.Name (tyS T : Str) p2) (tC (.ty (tyS T))) := pe_bltn hg2 hm2 (boot_ty T) rfl (by cases T <;> decide) (by cases T <;> decide)
  have hA : PA X [pa, .Name (tyS T : Str) p2] (tCons (TEv X.K X.mg W (ev a).e) (tCons (tC (.ty (tyS T))) tNil)) := pa_cons ha (pa_cons hT pa_nil) (star_cons hs)
  refine PE.weak (pe_callB call_isi hg hm boot_isinstance hA (by decide) (by decide) (star_cons hs) rfl) fun σ H Q h => ?_
  refine one_in (P := fun G H d μ' => OkP X.K G H μ' d Q) (f := fun x μ1 => Res.ofO ((mapO (fun T => hasTy μ1 T x) [T]).map fun (bs : List Bool) => D.bl (bs.any id)) μ1) h fun G0 ρ G H2 μ d1 fp1 x rel hh r1 nd hB out => ?_
  obtain ⟨d, e, q⟩ := out.ofO
  simp only [Option.map_eq_some_iff] at e
  obtain ⟨bs, e, rfl⟩ := e
  simp only [mapO] at e
  split at e
  · rename_i b hb
    cases e
    obtain ⟨t, ty, kk⟩ := ty_of hh.cells r1 ⟨T, b, hb⟩
    refine ⟨x, .ty (tyS T), _, _, b, rfl, .ty _, ty, kit_ty (kk T b hb), ?_⟩
    have := OkP.now q hh (.bl _)
    simpa using this
  · cases e

theorem s_isi2 {x y z : Str} {p p2 p3 tp : Pos} {k : Nat} {T U : Ty} (hx : x = "isinstance") (hy : y = (tyS T : Str)) (hz : z = (tyS U : Str)) (hg : Gl X x) (hm : X.mg x = none) (hg2 : Gl X y) (hm2 : X.mg y = none) (hg3 : Gl X z) (hm3 : X.mg z = none) (hs : notStar pa = true) (ha : SE X W pa (ev a).e) :
    SE X W (.Call (.Name x p) [pa, .Tuple [.Name y p2, .Name z p3] k tp] [] pos) (ev (.isi a [T, U] true)).e := by
  subst hx; subst hy; subst hz
  have hT : PE X (.Name (tyS T : Str) p2) (tC (.ty (tyS T))) := pe_bltn hg2 hm2 (boot_ty T) rfl (by cases T <;> decide) (by cases T <;> decide)
  have hU : PE X (.Name (tyS U : Str) p3) (tC (.ty (tyS U))) := pe_bltn hg3 hm3 (boot_ty U) rfl (by cases U <;> decide) (by cases U <;> decide)
  have hP : PE X (.Tuple [.Name (tyS T : Str) p2, .Name (tyS U : Str) p3] k tp) (tTup (tCons (tC (.ty (tyS T))) (tCons (tC (.ty (tyS U))) tNil))) := pe_tup (pa_cons hT (pa_cons hU pa_nil))
  have hA : PA X [pa, .Tuple [.Name (tyS T : Str) p2, .Name (tyS U : Str) p3] k tp] (tCons (TEv X.K X.mg W (ev a).e) (tCons (tTup (tCons (tC (.ty (tyS T))) (tCons (tC (.ty (tyS U))) tNil))) tNil)) := pa_cons ha (pa_cons hP pa_nil) (star_cons hs)
  refine PE.weak (pe_callB call_isiT hg hm boot_isinstance hA (by decide) (by decide) (star_cons hs) rfl) fun σ H Q h => ?_
  refine one_in (P := fun G H d μ' => OkP X.K G H μ' d Q) (f := fun x μ1 => Res.ofO ((mapO (fun T => hasTy μ1 T x) [T, U]).map fun (bs : List Bool) => D.bl (bs.any id)) μ1) h fun G0 ρ G H2 μ d1 fp1 x rel hh r1 nd hB out => ?_
  obtain ⟨d, e, qq⟩ := out.ofO
  simp only [Option.map_eq_some_iff] at e
  obtain ⟨bs, e, rfl⟩ := e
  simp only [mapO] at e
  split at e
  · rename_i b hb
    split at e
    · rename_i bs' hc
      cases e
      split at hc
      · rename_i c hc2
        cases hc
        refine ⟨(by decide : 2 ≤ sizeLine), fun q hq => ?_⟩
        have hh' := hh.new (o := .tup [.ty (tyS T), .ty (tyS U)]) hq
        have r1' := r1.mono (ext_new G hq (o := .tup [.ty (tyS T), .ty (tyS U)]))
        obtain ⟨t, ty, kk⟩ := ty_of hh'.cells r1' ⟨T, b, hb⟩
        refine ⟨x, q, _, _, _, b || c, rfl, upd_same, .cons (.ty _) (.cons (.ty _) .nil), ty, ?_, ?_⟩
        · refine kitAny_cons (h := kit_ty (kk T b hb)) (fun e => ?_) fun e => by rw [e]; rfl
          refine kitAny_cons (h := kit_ty (kk U c hc2)) (fun e2 => ?_) fun e2 => by rw [e2]; simp
          rw [e, e2]; exact kitAny_nil
        · have := OkP.now qq hh' (.bl _)
          simpa using this
      · cases hc
    · cases e
  · cases e

/-! ### comparisons -/
def pcs : List (CmpOp × Expr) → List CmpOp × List Expr
  | [] => ([], [])
  | (o, e) :: r => (o :: (pcs r).1, e :: (pcs r).2)
/-- a chain, the left value told -/
structure SC (X : Cx) (W : WX) (ops : List CmpOp) (ps : List Expr) (cs : Cs) : Prop where
  run : ∀ (pos : Pos) (pins : List (Addr × Obj)) (s : Shared) (σ : L2.St) (H H0 : Hp) (Q : VK) (x : V) (u : Value) (G0 G : Gh) (ρ : Slots) (μ : Store) (d : D) (fp : List Addr), Inv X pins σ H s → RelV x u → Rel X.K G ρ μ σ H → Here X.K G0 H0 G μ H → Rep X.K G.F H G.as x d fp →
    Out X.K X.mg G0 H0 (atS W σ) (fun d μ' => OkP X.K G0 H0 μ' d Q) (evC cs d ρ μ) → wpAny (model X.prog X.w) X.A (compareChain pos u ops (evalEach ps X.env)) (EP X pins σ Q) X.xe s
  test : ∀ (pos : Pos) (pins : List (Addr × Obj)) (s : Shared) (σ : L2.St) (H H0 : Hp) (Q : Bool → Hp → Prop) (x : V) (u : Value) (G0 G : Gh) (ρ : Slots) (μ : Store) (d : D) (fp : List Addr), Inv X pins σ H s → RelV x u → Rel X.K G ρ μ σ H → Here X.K G0 H0 G μ H → Rep X.K G.F H G.as x d fp →
    Out X.K X.mg G0 H0 (atS W σ) (fun d μ' => ∃ b, truD μ' d = some b ∧ ∀ G' H', Here X.K G0 H0 G' μ' H' → Q b H') (evC cs d ρ μ) → wpAny (model X.prog X.w) X.A (testChain pos u ops (evalEach ps X.env)) (TP X pins σ Q) X.xe s
theorem sc_one (hu : X.A.units + 65 < cLine) {o : Cm} {e : E} (he : SE X W pe (ev e).e) : SC X W [cmOf o] [pe] (.cons o e .nil) where
  run := fun pos pins s σ H H0 Q x u G0 G ρ μ d fp I rx rel hh rd out => by
    simp only [evC] at out
    refine chain_last (thn (he.run pins s σ H (fun y H1 => ∃ (G1 : Gh) (μ1 : Store) (d2 : D) (fp2 : List Addr), Here X.K G H G1 μ1 H1 ∧ Rep X.K G1.F H1 G1.as y d2 fp2 ∧ Out X.K X.mg G0 H0 (atS W σ) (fun d μ' => OkP X.K G0 H0 μ' d Q) (Res.ofO ((cmpD o d d2 μ1).map .bl) μ1)) I
      ⟨G, ρ, μ, rel, (Out.bind out).base hh fun d2 μ1 o1 G1 H1 y fp2 h1 r2 _ _ => ⟨G1, μ1, d2, fp2, h1, r2, o1⟩⟩) fun v s1 ⟨y, H1, I1, ry, G1, μ1, d2, fp2, h1, r2, o1⟩ => ?_)
    obtain ⟨z, e, q⟩ := o1.ofO
    simp only [Option.map_eq_some_iff] at e
    obtain ⟨b, e, rfl⟩ := e
    exact cmV hu o pins s1 σ H1 x y u v Q I1 rx ry ⟨G1, μ1, d, d2, fp, fp2, h1.cells, rd.mono h1.ext, r2, b, e, OkP.now q (hh.go h1) (.bl _)⟩
  test := fun pos pins s σ H H0 Q x u G0 G ρ μ d fp I rx rel hh rd out => by
    simp only [evC] at out
    refine test_last (thn (he.run pins s σ H (fun y H1 => ∃ (G1 : Gh) (μ1 : Store) (d2 : D) (fp2 : List Addr), Here X.K G H G1 μ1 H1 ∧ Rep X.K G1.F H1 G1.as y d2 fp2 ∧ Out X.K X.mg G0 H0 (atS W σ) (fun d μ' => ∃ b, truD μ' d = some b ∧ ∀ G' H', Here X.K G0 H0 G' μ' H' → Q b H') (Res.ofO ((cmpD o d d2 μ1).map .bl) μ1)) I
      ⟨G, ρ, μ, rel, (Out.bind out).base hh fun d2 μ1 o1 G1 H1 y fp2 h1 r2 _ _ => ⟨G1, μ1, d2, fp2, h1, r2, o1⟩⟩) fun v s1 ⟨y, H1, I1, ry, G1, μ1, d2, fp2, h1, r2, o1⟩ => ?_)
    obtain ⟨z, e, b', eb, q⟩ := o1.ofO
    simp only [Option.map_eq_some_iff] at e
    obtain ⟨b, e, ez⟩ := e
    rw [← ez] at eb
    have hb : b' = b := (Option.some.inj eb).symm
    rw [hb] at q
    refine thn (cmV hu o pins s1 σ H1 x y u v (fun z H2 => z = .bl b ∧ H1 = H2) I1 rx ry ⟨G1, μ1, d, d2, fp, fp2, h1.cells, rd.mono h1.ext, r2, b, e, rfl, rfl⟩) fun c s2 ⟨z, H2, I2, rz, ez, eH⟩ => ?_
    subst ez; subst eH
    cases rz
    exact wpAny_truthy_bool ⟨H1, I2, q G1 H1 (hh.go h1)⟩
theorem sc_more (hu : X.A.units + 65 < cLine) {o o' : Cm} {e e' : E} {cs : Cs} {op : CmpOp} {ops : List CmpOp} {pe' : Expr} {pes : List Expr} (he : SE X W pe (ev e).e) (hr : SC X W (op :: ops) (pe' :: pes) (.cons o' e' cs)) :
    SC X W (cmOf o :: op :: ops) (pe :: pe' :: pes) (.cons o e (.cons o' e' cs)) where
  run := fun pos pins s σ H H0 Q x u G0 G ρ μ d fp I rx rel hh rd out => by
    simp only [evC] at out
    refine chain_link (thn (he.run pins s σ H (fun y H1 => ∃ (G1 : Gh) (μ1 : Store) (d2 : D) (fp2 : List Addr), Here X.K G H G1 μ1 H1 ∧ Rep X.K G1.F H1 G1.as y d2 fp2 ∧ Out X.K X.mg G0 H0 (atS W σ) (fun d μ' => OkP X.K G0 H0 μ' d Q)
        (match cmpD o d d2 μ1 with | some true => evC (.cons o' e' cs) d2 ρ μ1 | some false => .ok (.bl false) μ1 | none => .bad)) I
      ⟨G, ρ, μ, rel, (Out.bind out).base hh fun d2 μ1 o1 G1 H1 y fp2 h1 r2 _ _ => ⟨G1, μ1, d2, fp2, h1, r2, o1⟩⟩) fun v s1 ⟨y, H1, I1, ry, G1, μ1, d2, fp2, h1, r2, o1⟩ => ?_)
    cases eb : cmpD o d d2 μ1 with
    | none => rw [eb] at o1; exact o1.elim
    | some b =>
      rw [eb] at o1
      refine thn (cmV hu o pins s1 σ H1 x y u v (fun z H2 => z = .bl b ∧ H1 = H2) I1 rx ry ⟨G1, μ1, d, d2, fp, fp2, h1.cells, rd.mono h1.ext, r2, b, eb, rfl, rfl⟩) fun c s2 ⟨z, H2, I2, rz, ez, eH⟩ => ?_
      subst ez; subst eH
      cases rz
      refine wpAny_truthy_bool ?_
      cases b with
      | true => exact ite_tt (hr.run pos pins s2 σ H1 H0 Q y v G0 G1 ρ μ1 d2 fp2 I2 ry (rel.go h1) (hh.go h1) r2 o1)
      | false => exact ite_ff ⟨.bl false, H1, I2, rfl, OkP.now o1 (hh.go h1) (.bl _)⟩
  test := fun pos pins s σ H H0 Q x u G0 G ρ μ d fp I rx rel hh rd out => by
    simp only [evC] at out
    refine test_link (thn (he.run pins s σ H (fun y H1 => ∃ (G1 : Gh) (μ1 : Store) (d2 : D) (fp2 : List Addr), Here X.K G H G1 μ1 H1 ∧ Rep X.K G1.F H1 G1.as y d2 fp2 ∧ Out X.K X.mg G0 H0 (atS W σ) (fun d μ' => ∃ b, truD μ' d = some b ∧ ∀ G' H', Here X.K G0 H0 G' μ' H' → Q b H')
        (match cmpD o d d2 μ1 with | some true => evC (.cons o' e' cs) d2 ρ μ1 | some false => .ok (.bl false) μ1 | none => .bad)) I
      ⟨G, ρ, μ, rel, (Out.bind out).base hh fun d2 μ1 o1 G1 H1 y fp2 h1 r2 _ _ => ⟨G1, μ1, d2, fp2, h1, r2, o1⟩⟩) fun v s1 ⟨y, H1, I1, ry, G1, μ1, d2, fp2, h1, r2, o1⟩ => ?_)
    cases eb : cmpD o d d2 μ1 with
    | none => rw [eb] at o1; exact o1.elim
    | some b =>
      rw [eb] at o1
      refine thn (cmV hu o pins s1 σ H1 x y u v (fun z H2 => z = .bl b ∧ H1 = H2) I1 rx ry ⟨G1, μ1, d, d2, fp, fp2, h1.cells, rd.mono h1.ext, r2, b, eb, rfl, rfl⟩) fun c s2 ⟨z, H2, I2, rz, ez, eH⟩ => ?_
      subst ez; subst eH
      cases rz
      refine wpAny_truthy_bool ?_
      cases b with
      | true => exact ite_tt (hr.test pos pins s2 σ H1 H0 Q y v G0 G1 ρ μ1 d2 fp2 I2 ry (rel.go h1) (hh.go h1) r2 o1)
      | false =>
        obtain ⟨b', eb', q⟩ := o1
        have hb : b' = false := (Option.some.inj eb').symm
        rw [hb] at q
        exact ite_ff ⟨H1, I2, q G1 H1 (hh.go h1)⟩
theorem s_cmp1 (ha : SE X W pa (ev a).e) {op : CmpOp} {cs : Cs} (hc : SC X W [op] [pe] cs) (hn : notSet pe = true) : SE X W (.Compare pa [op] [pe] pos) (ev (.cmp a cs)).e := by
  refine ⟨fun pins s σ H Q I ⟨G, ρ, μ, rel, o⟩ => ?_⟩
  show wpAny _ _ (do compareChain pos (← eval pa X.env) [op] (markedEach [op] [pe] (evalEach [pe] X.env))) _ _ s
  have hm : markedEach [op] [pe] (evalEach [pe] X.env) = evalEach [pe] X.env := markedEach_of_false _ _ _ (noSet hn)
  rw [hm]
  refine wpAny_bind (thn (ha.run pins s σ H (fun x H1 => ∃ (G1 : Gh) (μ1 : Store) (d : D) (fp : List Addr), Here X.K G H G1 μ1 H1 ∧ Rep X.K G1.F H1 G1.as x d fp ∧ Out X.K X.mg G H (atS W σ) (fun d μ' => OkP X.K G H μ' d Q) (evC cs d ρ μ1)) I
    ⟨G, ρ, μ, rel, (Out.bind o).mono fun d μ1 o1 G1 H1 x fp h1 r1 _ _ => ⟨G1, μ1, d, fp, h1, r1, o1⟩⟩) fun u s1 ⟨x, H1, I1, rx, G1, μ1, d, fp, h1, r1, o1⟩ => ?_)
  exact hc.run pos pins s1 σ H1 H Q x u G G1 ρ μ1 d fp I1 rx (rel.go h1) h1 r1 o1
theorem s_cmp (ha : SE X W pa (ev a).e) {ops : List CmpOp} {cs : Cs} (hc : SC X W ops pes cs) (hn : lastMarks ops pes = false) : SE X W (.Compare pa ops pes pos) (ev (.cmp a cs)).e := by
  refine ⟨fun pins s σ H Q I ⟨G, ρ, μ, rel, o⟩ => ?_⟩
  show wpAny _ _ (do compareChain pos (← eval pa X.env) ops (markedEach ops pes (evalEach pes X.env))) _ _ s
  rw [markedEach_of_false _ _ _ hn]
  refine wpAny_bind (thn (ha.run pins s σ H (fun x H1 => ∃ (G1 : Gh) (μ1 : Store) (d : D) (fp : List Addr), Here X.K G H G1 μ1 H1 ∧ Rep X.K G1.F H1 G1.as x d fp ∧ Out X.K X.mg G H (atS W σ) (fun d μ' => OkP X.K G H μ' d Q) (evC cs d ρ μ1)) I
    ⟨G, ρ, μ, rel, (Out.bind o).mono fun d μ1 o1 G1 H1 x fp h1 r1 _ _ => ⟨G1, μ1, d, fp, h1, r1, o1⟩⟩) fun u s1 ⟨x, H1, I1, rx, G1, μ1, d, fp, h1, r1, o1⟩ => ?_)
  exact hc.run pos pins s1 σ H1 H Q x u G G1 ρ μ1 d fp I1 rx (rel.go h1) h1 r1 o1
theorem t_cmp (ha : SE X W pa (ev a).e) {ops : List CmpOp} {cs : Cs} (hc : SC X W ops pes cs) (hn : lastMarks ops pes = false) : ST X W (.Compare pa ops pes pos) (ev (.cmp a cs)).t := by
  refine ⟨fun pins s σ H Q I ⟨G, ρ, μ, rel, o⟩ => ?_⟩
  show wpAny _ _ (do testChain pos (← eval pa X.env) ops (markedEach ops pes (evalEach pes X.env))) _ _ s
  rw [markedEach_of_false _ _ _ hn]
  refine wpAny_bind (thn (ha.run pins s σ H (fun x H1 => ∃ (G1 : Gh) (μ1 : Store) (d : D) (fp : List Addr), Here X.K G H G1 μ1 H1 ∧ Rep X.K G1.F H1 G1.as x d fp ∧ Out X.K X.mg G H (atS W σ) (fun d μ' => ∃ b, truD μ' d = some b ∧ ∀ G' H', Here X.K G H G' μ' H' → Q b H') (evC cs d ρ μ1)) I
    ⟨G, ρ, μ, rel, ?_⟩) fun u s1 ⟨x, H1, I1, rx, G1, μ1, d, fp, h1, r1, o1⟩ => ?_)
  · have o' := Out.bind (Out.bind o)
    refine o'.mono fun d μ1 o1 G1 H1 x fp h1 r1 _ _ => ⟨G1, μ1, d, fp, h1, r1, o1.mono fun d2 μ2 o2 => ?_⟩
    obtain ⟨b, e, q⟩ := o2.ofO
    exact ⟨b, e, q⟩
  · exact hc.test pos pins s1 σ H1 H Q x u G G1 ρ μ1 d fp I1 rx (rel.go h1) h1 r1 o1
end
end Pyf

/-! Pyf, part J: and, or; slices; methods; calls of defs. -/
namespace Pyf
open PySem PySem.Spec PyProof.Rows L2
open PySem (Str)

section
variable {X : Cx} {W : WX} {pos : Pos} {pe pe' pa pb pc : Expr} {pes : List Expr} {a b c e e' : E} {es : Es}
theorem Out.sub {K : PySem.W.Frag} {mg : Str → Option Value} {W : XK} {G G1 : Gh} {H H1 : Hp} {μ1 : Store} {Q : VK} {r : Res D} (h : Out K mg G H W (fun d μ' => OkP K G H μ' d Q) r) (h1 : Here K G H G1 μ1 H1) :
    Out K mg G1 H1 W (fun d μ' => OkP K G1 H1 μ' d Q) r :=
  h.base h1 fun d μ2 q G2 H2 v fp h2 r n b => q G2 H2 v fp (h1.go h2) r n fun a z => h1.ext.none (b a z)
/-! ### and, or -/
theorem s_one {op : BoolOp} {w : Bool} (h : SE X W pe (ev e).e) : SE X W (.BoolOp op [pe] pos) (evB (.cons e .nil) w).e := pe_one h
theorem s_and (ha : SE X W pe (ev e).e) (hb : SE X W (.BoolOp .And (pe' :: pes) pos) (evB (.cons e' es) true).e) : SE X W (.BoolOp .And (pe :: pe' :: pes) pos) (evB (.cons e (.cons e' es)) true).e :=
  PE.weak (pe_and ha hb) fun σ H Q ⟨G, ρ, μ, rel, o⟩ => ⟨G, ρ, μ, rel, (Out.bind o).mono fun d μ1 o1 G1 H1 x fp1 h1 r1 n1 b1 => by
    cases r1 with
    | bl b =>
      refine ⟨b, rfl, ?_⟩
      cases b with
      | true => exact ⟨G1, ρ, μ1, rel.go h1, o1.sub h1⟩
      | false => exact OkP.now o1 h1 (.bl _)
    | _ => exact o1.elim⟩
theorem s_or (ha : SE X W pe (ev e).e) (hb : SE X W (.BoolOp .Or (pe' :: pes) pos) (evB (.cons e' es) false).e) : SE X W (.BoolOp .Or (pe :: pe' :: pes) pos) (evB (.cons e (.cons e' es)) false).e :=
  PE.weak (pe_or ha hb) fun σ H Q ⟨G, ρ, μ, rel, o⟩ => ⟨G, ρ, μ, rel, (Out.bind o).mono fun d μ1 o1 G1 H1 x fp1 h1 r1 n1 b1 => by
    cases r1 with
    | bl b =>
      refine ⟨b, rfl, ?_⟩
      cases b with
      | false => exact ⟨G1, ρ, μ1, rel.go h1, o1.sub h1⟩
      | true => exact OkP.now o1 h1 (.bl _)
    | _ => exact o1.elim⟩
abbrev SW (X : Cx) (W : WX) (pe : Expr) (m : Slots → Store → Res Bool) : Prop := PW X pe (TTv X.K X.mg W m)
theorem PW.weak {t t' : TT} (h : PW X pe t) (w : ∀ σ H Q, t' σ H Q → t σ H Q) : PW X pe t' := ⟨fun wh pins s σ H Q I hq => h.run wh pins s σ H Q I (w σ H Q hq)⟩
theorem OutB.sub {K : PySem.W.Frag} {mg : Str → Option Value} {W : XK} {G G1 : Gh} {H H1 : Hp} {μ1 : Store} {Q : Bool → Hp → Prop} {r : Res Bool} (h : Out K mg G H W (fun b μ' => ∀ G' H', Here K G H G' μ' H' → Q b H') r) (h1 : Here K G H G1 μ1 H1) :
    Out K mg G1 H1 W (fun b μ' => ∀ G' H', Here K G1 H1 G' μ' H' → Q b H') r := h.base h1 fun d μ2 q G2 H2 h2 => q G2 H2 (h1.go h2)
theorem w_one {op : BoolOp} {w : Bool} (h : ST X W pe (ev e).t) : SW X W (.BoolOp op [pe] pos) (evB (.cons e .nil) w).t := by
  have h' : ST X W pe (evB (.cons e .nil) w).t := PT.weak h fun σ H Q ⟨G, ρ, μ, rel, o⟩ => ⟨G, ρ, μ, rel, (Out.bind o).mono fun b μ1 o1 => o1⟩
  cases op with
  | And => exact pw_and1 h'
  | Or => exact pw_or1 h'
theorem w_and (ha : ST X W pe (ev e).t) (hb : SW X W (.BoolOp .And (pe' :: pes) pos) (evB (.cons e' es) true).t) : SW X W (.BoolOp .And (pe :: pe' :: pes) pos) (evB (.cons e (.cons e' es)) true).t :=
  PW.weak (pw_and ha hb) fun σ H Q ⟨G, ρ, μ, rel, o⟩ => ⟨G, ρ, μ, rel, (Out.bind o).mono fun b μ1 o1 G1 H1 h1 => by
    cases b with
    | true => exact ⟨G1, ρ, μ1, rel.go h1, OutB.sub o1 h1⟩
    | false => exact o1 G1 H1 h1⟩
theorem w_or (ha : ST X W pe (ev e).t) (hb : SW X W (.BoolOp .Or (pe' :: pes) pos) (evB (.cons e' es) false).t) : SW X W (.BoolOp .Or (pe :: pe' :: pes) pos) (evB (.cons e (.cons e' es)) false).t :=
  PW.weak (pw_or ha hb) fun σ H Q ⟨G, ρ, μ, rel, o⟩ => ⟨G, ρ, μ, rel, (Out.bind o).mono fun b μ1 o1 G1 H1 h1 => by
    cases b with
    | false => exact ⟨G1, ρ, μ1, rel.go h1, OutB.sub o1 h1⟩
    | true => exact o1 G1 H1 h1⟩

/-! ### slices -/
def TOv (K : PySem.W.Frag) (mg : Str → Option Value) (W : WX) (w : Bool) (m : Slots → Store → Res D) : TO := fun σ H Q => ∃ (G : Gh) (ρ : Slots) (μ : Store), Rel K G ρ μ σ H ∧
  Out K mg G H (atS W σ) (fun o μ' => ∀ G' H', Here K G H G' μ' H' → Q o H') ((m ρ μ).bind fun y μ2 => Res.ofO (loF w y) μ2)
theorem so_none : PO X none (TOv X.K X.mg W false (ev (.k .non)).e) := by
  refine ⟨fun pins s σ H Q I ⟨G, ρ, μ, rel, o⟩ => ?_⟩
  exact po_none.run pins s σ H Q I (o G H rel.here)
theorem so_some (h : SE X W pe (ev e).e) : PO X (some pe) (TOv X.K X.mg W true (ev e).e) := by
  refine ⟨fun pins s σ H Q I ⟨G, ρ, μ, rel, o⟩ => ?_⟩
  refine (po_some h).run pins s σ H Q I ⟨G, ρ, μ, rel, (Out.bind o).mono fun d μ1 o1 G1 H1 x fp1 h1 r1 n1 b1 => ?_⟩
  obtain ⟨l, el, q⟩ := o1.ofO
  cases r1 with
  | int i =>
    cases el
    exact ⟨i, rfl, q G1 H1 h1⟩
  | _ => cases el
theorem s_sl {lo hi : Option Expr} {bl bh : Bool} {p2 : Pos} (ha : SE X W pa (ev a).e) (hl : PO X lo (TOv X.K X.mg W bl (ev b).e)) (hh : PO X hi (TOv X.K X.mg W bh (ev c).e)) :
    SE X W (.Subscript pa (.Slice lo hi none p2) pos) (ev (.sl a b c bl bh)).e :=
  PE.weak (pe_slice slOk ha hl hh) fun σ H Q ⟨G, ρ, μ, rel, o⟩ => ⟨G, ρ, μ, rel, (Out.bind o).mono fun d μ1 o1 G1 H1 x fp1 h1 r1 n1 b1 => by
    have o2 : Out X.K X.mg G H (atS W σ) (fun l μ2 => Out X.K X.mg G H (atS W σ) (fun h μ3 => Out X.K X.mg G H (atS W σ) (fun d μ' => OkP X.K G H μ' d Q) (slD μ3 d l h)) (((ev c).e ρ μ2).bind fun z μ3 => Res.ofO (loF bh z) μ3)) (((ev b).e ρ μ1).bind fun y μ2 => Res.ofO (loF bl y) μ2) := by
      revert o1
      cases (ev b).e ρ μ1 with
      | bad => exact fun z => z.elim
      | exc cc m => exact fun z => z
      | ok y μ2 =>
        simp only [Res.bind_ok]
        cases loF bl y with
        | none => exact fun z => z.elim
        | some l =>
          simp only [Res.ofO_some, Res.bind_ok]
          intro z
          show Out X.K X.mg G H (atS W σ) _ (((ev c).e ρ μ2).bind fun z μ3 => Res.ofO (loF bh z) μ3)
          revert z
          cases (ev c).e ρ μ2 with
          | bad => exact fun z => z.elim
          | exc cc m => exact fun z => z
          | ok y3 μ3 =>
            simp only [Res.bind_ok]
            cases loF bh y3 with
            | none => exact fun z => z.elim
            | some h => exact fun z => z
    refine ⟨G1, ρ, μ1, rel.go h1, o2.base h1 fun l μ2 o3 G2 H2 h2 => ?_⟩
    refine ⟨G2, ρ, μ2, (rel.go h1).go h2, o3.base (h1.go h2) fun h μ3 o4 G3 H3 h3 => ?_⟩
    have hh := (h1.go h2).go h3
    obtain ⟨z, μ', ez, q⟩ := o4.ok (nox_slD _ _ _ _)
    unfold slD at ez
    split at ez
    · rename_i ys hy
      cases ez
      exact ⟨G, H, G3, _, d, fp1, ys, hh, (r1.mono h2.ext).mono h3.ext, n1, b1, hy, q⟩
    · cases ez⟩

theorem repL_snoc {K : PySem.W.Frag} {F H : Hp} {as : List Addr} : ∀ {vs : List V} {ds : List D} {fp : List Addr} {v : V} {d : D} {fq : List Addr}, RepL K F H as vs ds fp → Rep K F H as v d fq → RepL K F H as (vs ++ [v]) (ds ++ [d]) (fp ++ fq)
  | _, _, _, v, d, fq, .nil, r => by
    have := RepL.cons r RepL.nil
    rw [List.append_nil] at this
    exact this
  | _, _, _, v, d, fq, .cons r0 t, r => by
    have := RepL.cons r0 (repL_snoc t r)
    rw [← List.append_assoc] at this
    exact this
theorem repL_rev {K : PySem.W.Frag} {F H : Hp} {as : List Addr} : ∀ {vs : List V} {ds : List D} {fp : List Addr}, RepL K F H as vs ds fp → ∃ fq, RepL K F H as vs.reverse ds.reverse fq ∧ fq.Perm fp
  | _, _, _, .nil => ⟨[], .nil, List.Perm.refl _⟩
  | _, _, _, .cons (fp := fa) (fps := ft) r t => by
    obtain ⟨fq, h1, h2⟩ := repL_rev t
    refine ⟨fq ++ fa, ?_, (List.perm_append_comm).trans (List.Perm.append_left fa h2)⟩
    rw [List.reverse_cons, List.reverse_cons]
    exact repL_snoc h1 r
theorem s_rev {k : Nat} {p1 p2 p3 : Pos} (ha : SE X W pa (ev a).e) : SE X W (.Subscript pa (.Slice none none (some (.UnaryOp .USub (.Constant (.int 1) k p1) p2)) p3) pos) (ev (.rev a)).e :=
  PE.weak (pe_revL ha) fun σ H Q ⟨G, ρ, μ, rel, o⟩ => ⟨G, ρ, μ, rel, (Out.bind o).mono fun d μ1 o1 G1 H1 x fp1 h1 r1 n1 b1 => by
    unfold revD at o1
    cases e : asL μ1 d with
    | none => rw [e] at o1; exact o1.elim
    | some ys =>
      rw [e] at o1
      obtain ⟨a, ws, fq, rfl, hq, t, sb⟩ := asL_at h1.cells r1 e
      obtain ⟨f2, t2, pm⟩ := repL_rev t
      have o2 : OkP X.K G H μ1 (.new ys.reverse) Q := o1
      exact ⟨a, ws, rfl, hq, fun p hp => o2.list h1 t2 (pm.nodup_iff.mpr (n1.sublist sb)) (fun b hb => b1 b (sb.subset (pm.mem_iff.mp hb))) hp⟩⟩

/-! ### methods -/
def meNm : Me → String
  | .append => "append" | .extend => "extend" | .pop => "pop" | .index => "index" | .count => "count" | .insert => "insert"
theorem meSlot (m : Me) : Slot "list" (meNm m : Str) (meId m) := by
  cases m
  · exact PySem.F.slot_list_append
  · exact PySem.F.slot_list_extend
  · exact PySem.F.slot_list_pop
  · exact PySem.F.slot_list_index
  · exact PySem.F.slot_list_count
  · exact PySem.F.slot_list_insert
theorem meTy (m : Me) : typeOf (.builtin (meId m)) = pure (.type "method_descriptor") := by
  cases m
  · exact PySem.F.type_list_append
  · exact PySem.F.type_list_extend
  · exact PySem.F.type_list_pop
  · exact PySem.F.type_list_index
  · exact PySem.F.type_list_count
  · exact PySem.F.type_list_insert
def notCall : Expr → Bool
  | .Call _ _ _ _ => false
  | _ => true
theorem base_of {o : Expr} {x : Str} {env : Env} (h : notCall o = true) : attributeBase o x env (eval o env) = eval o env := by
  cases o <;> first | rfl | cases h
theorem s_me {apos : Pos} (m : Me) (hu : X.A.units + 65 < cLine) (hn : notCall pa = true) (hl : (apos.endLine == pos.line) = true) (hs : notStar pe = true) (ho : SE X W pa (ev a).e) (ha : SE X W pe (ev e).e) :
    SE X W (.Call (.Attribute pa (meNm m) apos) [pe] [] pos) (ev (.me m a (.cons e .nil))).e := by
  have hA : SA X W [pe] (evs (.cons e .nil)) := s_cons hs ha s_nil
  have st := star_cons (pes := []) (env := X.env) hs
  refine PE.weak (pe_bm PySem.F.plainAttrs_list (meSlot m) (meTy m) (meOk hu m) ho hA (base_of hn) (by rw [st]; rfl) hl st rfl) fun σ H Q ⟨G, ρ, μ, rel, o⟩ => ⟨G, ρ, μ, rel, (Out.bind o).mono fun d μ1 o1 G1 H1 x fp1 h1 r1 n1 b1 => ?_⟩
  by_cases hL : (asL μ1 d).isSome = true
  · rw [if_pos hL] at o1
    obtain ⟨ys, hy⟩ := Option.isSome_iff_exists.mp hL
    obtain ⟨p, vs, fq, rfl, hq, _⟩ := asL_at h1.cells r1 hy
    refine ⟨.inl ⟨rfl, _, hq⟩, G1, ρ, μ1, rel.go h1, (Out.bind o1).base h1 fun ds μ2 o2 G2 H2 ws fp2 h2 r2 n2 b2 => ?_⟩
    obtain ⟨z, μ', ez, q⟩ := o2.ok (nox_meD m d ds μ2)
    exact ⟨G, H, G2, μ2, d, ds, fp1, fp2, h1.go h2, r1.mono h2.ext, r2, new_nodup r1 n1 n2 b2, fun a ha => (List.mem_append.mp ha).elim (b1 a) fun z => h1.ext.none (b2 a z), z, μ', ez, q⟩
  · rw [if_neg hL] at o1; exact o1.elim
theorem s_me0 {apos : Pos} (m : Me) (hu : X.A.units + 65 < cLine) (hn : notCall pa = true) (hl : (apos.endLine == pos.line) = true) (ho : SE X W pa (ev a).e) :
    SE X W (.Call (.Attribute pa (meNm m) apos) [] [] pos) (ev (.me m a .nil)).e := by
  refine PE.weak (pe_bm0 PySem.F.plainAttrs_list (meSlot m) (meTy m) (meOk hu m) ho (base_of hn) hl) fun σ H Q ⟨G, ρ, μ, rel, o⟩ => ⟨G, ρ, μ, rel, (Out.bind o).mono fun d μ1 o1 G1 H1 x fp1 h1 r1 n1 b1 => ?_⟩
  by_cases hL : (asL μ1 d).isSome = true
  · rw [if_pos hL] at o1
    obtain ⟨ys, hy⟩ := Option.isSome_iff_exists.mp hL
    obtain ⟨p, vs, fq, rfl, hq, _⟩ := asL_at h1.cells r1 hy
    refine ⟨.inl ⟨rfl, _, hq⟩, ?_⟩
    obtain ⟨z, μ', ez, q⟩ := (show Out X.K X.mg G H (atS W σ) (fun d μ' => OkP X.K G H μ' d Q) (meD m d [] μ1) from o1).ok (nox_meD m d [] μ1)
    exact ⟨G, H, G1, μ1, d, [], fp1, [], h1, r1, .nil, by rw [List.append_nil]; exact n1, by rw [List.append_nil]; exact b1, z, μ', ez, q⟩
  · rw [if_neg hL] at o1; exact o1.elim
end

/-! ### calls of defs -/
/-- what a def hands back, told by trees -/
def spD (K : PySem.W.Frag) (mg : Str → Option Value) (f : Den) : Sp := fun vs H Q E => ∃ (G : Gh) (μ : Store) (ds : List D), Cells K G μ H ∧ RepL K G.F H G.as vs ds [] ∧ ds.length = f.ps.length ∧ Out K mg G H E (fun d μ' => OkP K G H μ' d Q) (f.run ds μ)
structure FnG (P : Program) (w : World) (K : PySem.W.Frag) (mg : Str → Option Value) (base : Heap) (k : Nat) (f : Addr) (fd : FuncData) (g : Den) : Prop where
  run : ∀ (A : Around) (outer : List Env) (s : Shared) (H : Hp) (args : Args) (us : List Value) (vs : List V) (Q : VK) (E : XK), Room k A → A.guards = some [] → Env0 P w K mg base A outer s H → BindsTo s fd args (g.ps.zip us) → Vals vs us →
    spD K mg g vs H Q E → codeAny (model P w) A (.call (.ref f) args) (CR (L2.CX P w) outer P w H s Q E) s
theorem FnG.mono {P : Program} {w : World} {K : PySem.W.Frag} {mg : Str → Option Value} {base : Heap} {j k : Nat} {f : Addr} {fd : FuncData} {g : Den} (F : FnG P w K mg base j f fd g) (h : j ≤ k) : FnG P w K mg base k f fd g :=
  ⟨fun A outer s H args us vs Q E hr => F.run A outer s H args us vs Q E (hr.mono h)⟩
theorem fnG_bad {P : Program} {w : World} {K : PySem.W.Frag} {mg : Str → Option Value} {base : Heap} {k : Nat} {f : Addr} {fd : FuncData} {ps : List Str} : FnG P w K mg base k f fd (denBad ps) :=
  ⟨fun A outer s H args us vs Q E hr hgd e0 hb rv ⟨G, μ, ds, c, r, hl, o⟩ => o.elim⟩
/-- how np values by place and some by name are bound -/
def Bd (K : PySem.W.Frag) (fd : FuncData) (ps : List Str) (np : Nat) (kw : List Str) : Prop := ∀ (s : Shared) (us ws zs : List Value), K.In s.heap → us.length = np → ws.length = kw.length → placed np kw (us ++ ws) ps 0 = some zs → BindsTo s fd ⟨us, kw.zip ws⟩ (ps.zip zs)
/-- the def named x keeps to f -/
def Fa (P : Program) (w : World) (K : PySem.W.Frag) (mg : Str → Option Value) (base : Heap) (k : Nat) (x : Str) (g : Den) (np : Nat) (kw : List Str) : Prop :=
  ∃ (f : Addr) (fd : FuncData), mg x = some (.ref f) ∧ PySem.W.keepIn K (.ref f) = true ∧ FnG P w K mg base k f fd g ∧ Bd K fd g.ps np kw

theorem vals_get {vs : List V} {us : List Value} (r : Vals vs us) (i : Nat) : (∃ v u, vs[i]? = some v ∧ us[i]? = some u ∧ RelV v u) ∨ (vs[i]? = none ∧ us[i]? = none) := by
  cases h : vs[i]? with
  | none => exact .inr ⟨rfl, r.none_of h⟩
  | some v =>
    obtain ⟨u, hu, ru⟩ := r.get h
    exact .inl ⟨v, u, rfl, hu, ru⟩
theorem consO_some {α : Type} {o : Option α} {r : Option (List α)} {l : List α} (e : consO o r = some l) : ∃ d t, o = some d ∧ r = some t ∧ l = d :: t := by
  cases o with
  | none => cases r <;> cases e
  | some d =>
    cases r with
    | none => cases e
    | some t => cases e; exact ⟨d, t, rfl, rfl, rfl⟩
theorem getK_map {α β : Type} {R : α → β → Prop} {np : Nat} {kw : List Str} {ds : List α} {es : List β} (h : ∀ (j : Nat) (d : α), ds[j]? = some d → ∃ e, es[j]? = some e ∧ R d e) {p : Str} {i : Nat} {d : α} (e : getK np kw ds p i = some d) : ∃ e, getK np kw es p i = some e ∧ R d e := by
  unfold getK at e ⊢
  by_cases hi : i < np
  · rw [if_pos hi] at e ⊢
    exact h i d e
  · rw [if_neg hi] at e ⊢
    cases hf : findIx p kw 0 with
    | none => rw [hf] at e; cases e
    | some j => rw [hf] at e; exact h (np + j) d e
theorem placed_rel {K : PySem.W.Frag} {F H : Hp} {as : List Addr} {vs : List V} {us : List Value} {ds : List D} {np : Nat} {kw : List Str} (rv : Vals vs us) (r : RepL K F H as vs ds []) :
    ∀ (ps : List Str) (i : Nat) {es : List D}, placed np kw ds ps i = some es → ∃ ws zs, placed np kw us ps i = some zs ∧ Vals ws zs ∧ RepL K F H as ws es []
  | [], i, es, e => by cases e; exact ⟨[], [], rfl, .nil, .nil⟩
  | p :: ps, i, es, e => by
    obtain ⟨d, t, e1, e2, rfl⟩ := consO_some (show consO (getK np kw ds p i) (placed np kw ds ps (i + 1)) = some es from e)
    obtain ⟨u, hu, v, ru, rd⟩ := getK_map (R := fun d u => ∃ v, RelV v u ∧ Rep K F H as v d []) (es := us) (fun j d h => by
      obtain ⟨v, hv, rd⟩ := r.get0 h
      obtain ⟨u, hu, ru⟩ := rv.get hv
      exact ⟨u, hu, v, ru, rd⟩) e1
    obtain ⟨ws, zs, h3, h4, h5⟩ := placed_rel rv r ps (i + 1) e2
    exact ⟨v :: ws, u :: zs, by show consO (getK np kw us p i) (placed np kw us ps (i + 1)) = _; rw [hu, h3]; rfl, .cons ru h4, RepL.cons (fp := []) (fps := []) rd h5⟩
theorem frzL_get : ∀ (l : List D) (j : Nat), (frzL l)[j]? = l[j]?.map frz
  | [], j => by simp [frzL]
  | y :: l, 0 => rfl
  | y :: l, j + 1 => by simpa [frzL] using frzL_get l j
theorem frzL_length : ∀ l : List D, (frzL l).length = l.length
  | [] => rfl
  | y :: l => by simp only [frzL, List.length_cons, frzL_length l]
theorem placed_frz {np : Nat} {kw : List Str} {ds : List D} : ∀ (ps : List Str) (i : Nat) {zs : List D}, placed np kw ds ps i = some zs → placed np kw (frzL ds) ps i = some (frzL zs)
  | [], i, zs, e => by cases e; rfl
  | p :: ps, i, zs, e => by
    obtain ⟨d, t, e1, e2, rfl⟩ := consO_some (show consO (getK np kw ds p i) (placed np kw ds ps (i + 1)) = some zs from e)
    obtain ⟨d', h1, h2⟩ := getK_map (R := fun d d' => d' = frz d) (es := frzL ds) (fun j d h => ⟨frz d, by rw [frzL_get, h]; rfl, rfl⟩) e1
    subst h2
    show consO (getK np kw (frzL ds) p i) (placed np kw (frzL ds) ps (i + 1)) = _
    rw [h1, placed_frz ps (i + 1) e2]; rfl

section
variable {X : Cx} {W : WX} {k : Nat}
theorem rep_low {K : PySem.W.Frag} {F H : Hp} {as as' : List Addr} {n : Nat} (ha : ∀ (k : Nat) (a : Addr), k < n → as[k]? = some a → as'[k]? = some a) : ∀ (d : D) (v : V) (fp : List Addr), Rep K F H as v d fp → noPtr n d = true → (∀ b ∈ fp, b ∉ as') → Rep K F H as' v d fp := by
  intro d v fp r
  refine Rep.rec (motive_1 := fun v d fp _ => noPtr n d = true → (∀ b ∈ fp, b ∉ as') → Rep K F H as' v d fp) (motive_2 := fun vs ds fp _ => noPtrL n ds = true → (∀ b ∈ fp, b ∉ as') → RepL K F H as' vs ds fp) ?_ ?_ ?_ ?_ ?_ ?_ ?_ ?_ ?_ ?_ ?_ ?_ r
  · intro _ _; exact .non
  · intro b _ _; exact .bl b
  · intro i _ _; exact .int i
  · intro s _ _; exact .str s
  · intro a ns h _ _; exact .scr ns h
  · intro a vs ds h _ ih hn hb; exact .lst h (ih hn (by simp))
  · intro a vs ds fp h _ ih hn hb; exact .tup h (ih hn hb)
  · intro a k h hn _; exact .ptr (ha k a (of_decide_eq_true hn) h)
  · intro a vs ds fp h1 h2 h3 _ ih hn hb; exact .new h1 (hb _ List.mem_cons_self) h3 (ih hn fun b z => hb b (List.mem_cons_of_mem _ z))
  · intro a vs ds fp h1 h2 h3 _ ih hn hb; exact .ntup h1 (hb _ List.mem_cons_self) h3 (ih hn fun b z => hb b (List.mem_cons_of_mem _ z))
  · intro _ _; exact .nil
  · intro v vs d ds fp fps _ _ ih1 ih2 hn hb
    have hn : (noPtr n d && noPtrL n ds) = true := hn
    rw [Bool.and_eq_true] at hn
    exact .cons (ih1 hn.1 fun b z => hb b (List.mem_append_left _ z)) (ih2 hn.2 fun b z => hb b (List.mem_append_right _ z))
theorem repL_low {K : PySem.W.Frag} {F H : Hp} {as as' : List Addr} {n : Nat} (ha : ∀ (k : Nat) (a : Addr), k < n → as[k]? = some a → as'[k]? = some a) : ∀ (ds : List D) (vs : List V) (fp : List Addr), RepL K F H as vs ds fp → noPtrL n ds = true → (∀ b ∈ fp, b ∉ as') → RepL K F H as' vs ds fp
  | _, _, _, .nil, _, _ => .nil
  | _, _, _, .cons r t, hn, hb => by
    rename_i v vs d ds fp fps
    have hn : (noPtr n d && noPtrL n ds) = true := hn
    rw [Bool.and_eq_true] at hn
    exact .cons (rep_low ha _ _ _ r hn.1 fun b z => hb b (List.mem_append_left _ z)) (repL_low ha _ _ _ t hn.2 fun b z => hb b (List.mem_append_right _ z))
theorem getCs_at {μ : Store} : ∀ {ks : List Nat} {cs : Store}, getCs μ ks = some cs → cs.length = ks.length ∧ ∀ (j k : Nat), ks[j]? = some k → ∃ xs, cs[j]? = some (.lst xs) ∧ μ[k]? = some (.lst xs) ∧ noPtrL 0 xs = true
  | [], cs, e => by cases e; exact ⟨rfl, fun j k h => by simp at h⟩
  | k :: ks, cs, e => by
    simp only [getCs] at e
    split at e
    · rename_i xs cs' h1 h2
      split at e
      · rename_i hp
        cases e
        obtain ⟨l, q⟩ := getCs_at h2
        refine ⟨by simp [l], fun j i hj => ?_⟩
        cases j with
        | zero => cases hj; exact ⟨xs, rfl, h1, hp⟩
        | succ j => exact q j i (by simpa using hj)
      · cases e
    · cases e
theorem putCs_len : ∀ (ks : List Nat) (cs μ : Store), (putCs ks cs μ).length = μ.length
  | [], [], _ => rfl
  | [], _ :: _, _ => rfl
  | _ :: _, [], _ => rfl
  | k :: ks, c :: cs, μ => by simp only [putCs]; rw [putCs_len ks cs, List.length_set]
theorem putCs_off {k : Nat} : ∀ (ks : List Nat) (cs μ : Store), k ∉ ks → (putCs ks cs μ)[k]? = μ[k]?
  | [], [], _, _ => rfl
  | [], _ :: _, _, _ => rfl
  | _ :: _, [], _, _ => rfl
  | j :: ks, c :: cs, μ, h => by
    simp only [List.mem_cons, not_or] at h
    simp only [putCs]
    rw [putCs_off ks cs _ h.2, List.getElem?_set_ne (fun e => h.1 e.symm)]
theorem putCs_on {k : Nat} : ∀ (ks : List Nat) (cs μ : Store) (j : Nat), ks.Nodup → ks.length = cs.length → ks[j]? = some k → k < μ.length → (putCs ks cs μ)[k]? = cs[j]?
  | [], _, _, j, _, _, h, _ => by simp at h
  | _ :: _, [], _, _, _, h, _, _ => by simp at h
  | i :: ks, c :: cs, μ, 0, nd, hl, h, hk => by
    cases h
    simp only [putCs]
    rw [putCs_off ks cs _ (List.nodup_cons.mp nd).1, List.getElem?_set_self hk]; rfl
  | i :: ks, c :: cs, μ, j + 1, nd, hl, h, hk => by
    simp only [putCs]
    exact putCs_on ks cs _ j (List.nodup_cons.mp nd).2 (by simpa using hl) (by simpa using h) (by rw [List.length_set]; exact hk)
/-- the cells' places that are handed on -/
def asOf (as : List Addr) (ks : List Nat) : List Addr := ks.map fun k => (as[k]?).getD 0
theorem asOf_get {as : List Addr} {ks : List Nat} {j k : Nat} (h : ks[j]? = some k) : (asOf as ks)[j]? = some ((as[k]?).getD 0) := by
  unfold asOf; rw [List.getElem?_map, h]; rfl
theorem renum_rep {K : PySem.W.Frag} {F H : Hp} {as : List Addr} : ∀ (ds : List D) (vs : List V) (ks0 : List Nat), RepL K F H as vs ds [] → ds.all okA = true → RepL K F H (asOf as (ks0 ++ ptrs ds)) vs (renum ks0.length ds) []
  | [], vs, ks0, r, _ => by
    have := r.length
    cases vs with
    | nil => exact .nil
    | cons _ _ => simp at this
  | d :: ds, vs, ks0, r, h => by
    rw [List.all_cons, Bool.and_eq_true] at h
    cases vs with
    | nil => have := r.length; simp at this
    | cons v vs =>
      obtain ⟨r1, r2⟩ := r.nil_of
      by_cases hp : ∃ k, d = .ptr k
      · obtain ⟨k, rfl⟩ := hp
        have e : ks0 ++ ptrs (D.ptr k :: ds) = (ks0 ++ [k]) ++ ptrs ds := by simp [ptrs]
        rw [e]
        have ih := renum_rep ds vs (ks0 ++ [k]) r2 h.2
        rw [List.length_append, List.length_singleton] at ih
        refine RepL.cons (fp := []) (fps := []) ?_ ih
        cases r1 with
        | ptr ha =>
          refine .ptr ?_
          have : ((ks0 ++ [k]) ++ ptrs ds)[ks0.length]? = some k := by
            rw [List.append_assoc, List.getElem?_append_right (Nat.le_refl _), Nat.sub_self]; rfl
          rw [asOf_get this, ha]; rfl
      · have e : ptrs (d :: ds) = ptrs ds ∧ renum ks0.length (d :: ds) = d :: renum ks0.length ds ∧ noPtr 0 d = true := by
          cases d <;> first | exact ⟨rfl, rfl, h.1⟩ | exact absurd ⟨_, rfl⟩ hp
        rw [e.1, e.2.1]
        exact RepL.cons (fp := []) (fps := []) (rep_low (n := 0) (fun k a z _ => absurd z (Nat.not_lt_zero _)) d v [] r1 e.2.2 (by simp)) (renum_rep ds vs ks0 r2 h.2)
/-- back from a call that was given the cells ks -/
theorem Here.back {K : PySem.W.Frag} {G1 G2 : Gh} {H H2 : Hp} {μ μ2 : Store} {ks : List Nat} (c : Cells K G1 μ H) (hk : ∀ k ∈ ks, k < μ.length) (nd : ks.Nodup) (h : Here K ⟨G1.F, asOf G1.as ks⟩ H G2 μ2 H2) (hl : μ2.length = ks.length) (ho : μ2.all (cellIn 0) = true) :
    Here K G1 H ⟨G2.F, G1.as⟩ (putCs ks μ2 μ) H2 ∧ G2.as = asOf G1.as ks := by
  have e2 : G2.as = asOf G1.as ks := by
    obtain ⟨l, e, _⟩ := h.ext.as
    have e : G2.as = asOf G1.as ks ++ l := e
    have := h.cells.len
    rw [e, List.length_append] at this
    have z : (asOf G1.as ks).length = ks.length := by simp [asOf]
    have : l = [] := List.length_eq_zero_iff.mp (by show l.length = 0; omega)
    subst this
    rw [e, List.append_nil]
  have at_ : ∀ {k : Nat}, k ∈ ks → ∃ a, G1.as[k]? = some a := fun {k} hm => by
    have : k < G1.as.length := by rw [c.len]; exact hk k hm
    exact ⟨_, List.getElem?_eq_getElem this⟩
  have sub : ∀ a, a ∈ asOf G1.as ks → ∃ k ∈ ks, G1.as[k]? = some a := fun a ha => by
    unfold asOf at ha
    obtain ⟨k, hm, e⟩ := List.mem_map.mp ha
    obtain ⟨b, hb⟩ := at_ hm
    rw [hb] at e
    cases e
    exact ⟨k, hm, hb⟩
  have keep : ∀ b o, H b = some o → b ∉ G1.as → H2 b = some o := fun b o e hn => h.ext.fr b o e fun z => by
    obtain ⟨k, _, q⟩ := sub b z
    exact hn (List.mem_of_getElem? q)
  refine ⟨⟨⟨h.ext.f, ⟨[], by simp, by simp⟩, keep, fun b o e f hn => h.ext.nf b o e f fun z => ?_, h.ext.tr⟩, ⟨h.cells.same, ?_, c.nd, fun a ha => ?_, fun k a ds h1 h2 => ?_⟩⟩, e2⟩
  · obtain ⟨k, _, q⟩ := sub b z
    exact hn (List.mem_of_getElem? q)
  · rw [putCs_len]; exact c.len
  · obtain ⟨o, e⟩ := c.there a ha
    exact h.ext.tr a o e
  · by_cases hm : k ∈ ks
    · obtain ⟨j, hj⟩ := List.getElem?_of_mem hm
      rw [putCs_on ks μ2 μ j nd hl.symm hj (hk k hm)] at h2
      have ha : G2.as[j]? = some a := by rw [e2, asOf_get hj, h1]; rfl
      obtain ⟨q1, vs, q2, q3⟩ := h.cells.lst j a ds ha h2
      rw [List.all_eq_true] at ho
      exact ⟨q1, vs, q2, repL_low (n := 0) (fun k a z _ => absurd z (Nat.not_lt_zero _)) _ _ _ q3 (ho (.lst ds) (List.mem_of_getElem? h2)) (by simp)⟩
    · rw [putCs_off ks μ2 μ hm] at h2
      obtain ⟨q1, vs, q2, q3⟩ := c.lst k a ds h1 h2
      have hn : a ∉ asOf G1.as ks := fun z => by
        obtain ⟨j, hj, q⟩ := sub a z
        have := nd_ix c.nd q h1
        subst this
        exact hm hj
      exact ⟨h.ext.nf a _ q2 q1 hn, vs, h.ext.fr a _ q2 hn, q3.set h.ext.f (fun _ _ z => z) rfl⟩
theorem mapO_cons {α β : Type} {f : α → Option β} {x : α} {xs : List α} {ys : List β} (h : mapO f (x :: xs) = some ys) : ∃ y zs, f x = some y ∧ mapO f xs = some zs ∧ ys = y :: zs := by
  simp only [mapO] at h
  split at h
  · rename_i y h1
    split at h
    · rename_i zs h2
      exact ⟨y, zs, h1, h2, (Option.some.inj h).symm⟩
    · cases h
  · cases h
/-- all cells as they are now, frozen -/
def allF (G : Gh) (H : Hp) : Hp := fun a => match G.F a with
  | some o => some o
  | none => if a ∈ G.as then H a else none
theorem allF_same {G : Gh} {H : Hp} : Same G.F (allF G H) := fun a o h => by unfold allF; rw [h]
theorem viewL_rep {K : PySem.W.Frag} {G : Gh} {H : Hp} {μ : Store} {n : Nat} (ih : ∀ (d d' : D) (v : V), Rep K G.F H G.as v d [] → viewD n μ d = some d' → Rep K (allF G H) H [] v d' []) : ∀ (ds ds' : List D) (vs : List V), RepL K G.F H G.as vs ds [] → mapO (viewD n μ) ds = some ds' → RepL K (allF G H) H [] vs ds' []
  | [], ds', vs, r, e => by
    simp only [mapO] at e
    cases e
    have := r.length
    cases vs with
    | nil => exact .nil
    | cons _ _ => simp at this
  | d :: ds, ds', vs, r, e => by
    obtain ⟨y, zs, e1, e2, rfl⟩ := mapO_cons e
    cases vs with
    | nil => have := r.length; simp at this
    | cons v vs =>
      obtain ⟨r1, r2⟩ := r.nil_of
      exact RepL.cons (fp := []) (fps := []) (ih d y v r1 e1) (viewL_rep ih ds zs vs r2 e2)
theorem view_low {K : PySem.W.Frag} {G : Gh} {H : Hp} {d : D} {v : V} (r : Rep K G.F H G.as v d []) (h : noPtr 0 d = true) : Rep K (allF G H) H [] v d [] :=
  (rep_low (n := 0) (fun k a z _ => absurd z (Nat.not_lt_zero _)) d v [] r h (by simp) : Rep K G.F H [] v d []).set allF_same (fun _ _ z => z) rfl
theorem view_rep {K : PySem.W.Frag} {G : Gh} {H : Hp} {μ : Store} (c : Cells K G μ H) : ∀ (n : Nat) (d d' : D) (v : V), Rep K G.F H G.as v d [] → viewD n μ d = some d' → Rep K (allF G H) H [] v d' []
  | 0, d, d', v, r, e => by
    unfold viewD at e
    split at e
    · rename_i h
      cases e
      exact view_low r h
    · cases e
  | n + 1, d, d', v, r, e => by
    have ih := view_rep c n
    unfold viewD at e
    split at e
    · rename_i h
      cases e
      exact view_low r h
    · split at e
      · rename_i _ k _
        split at e
        · rename_i xs hx
          rw [Option.map_eq_some_iff] at e
          obtain ⟨ys, e1, rfl⟩ := e
          cases r with
          | ptr ha =>
            rename_i a
            obtain ⟨q1, vs, q2, q3⟩ := c.lst k a xs ha hx
            refine .lst ?_ (viewL_rep ih xs ys vs q3 e1)
            unfold allF
            rw [q1]
            simp only
            rw [if_pos (List.mem_of_getElem? ha)]
            exact q2
        · cases e
      · rw [Option.map_eq_some_iff] at e
        obtain ⟨ys, e1, rfl⟩ := e
        obtain ⟨a, vs, rfl, hF, rr⟩ := r.fp_tup
        exact .tup (allF_same _ _ hF) (viewL_rep ih _ ys vs rr e1)
      · rw [Option.map_eq_some_iff] at e
        obtain ⟨ys, e1, rfl⟩ := e
        cases r with
        | lst hF rr => exact .lst (allF_same _ _ hF) (viewL_rep ih _ ys _ rr e1)
      · cases e
theorem rep_sc {K : PySem.W.Frag} {F H F' H' : Hp} {as as' : List Addr} {v : V} {d : D} {fp : List Addr} (r : Rep K F H as v d fp) (h : isSc d = true) : Rep K F' H' as' v d [] := by
  cases r <;> first | exact .non | exact .bl _ | exact .int _ | exact .str _ | cases h
/-- the callee looks -/
theorem call_runV {g : Den} {np : Nat} {kw : List Str} {f : Addr} {fd : FuncData} (hr : Room k X.A) (hgd : X.A.guards = some []) (tk : Takes X W) (F : FnG X.prog X.w X.K X.mg X.base k f fd g) (B : Bd X.K fd g.ps np kw)
    {pins : List (Addr × Obj)} {s : Shared} {σ : L2.St} {H H0 : Hp} {Q : VK} {G0 G : Gh} {μ : Store} {ds zs : List D} {fp : List Addr} {vs : List V} {us ws : List Value} (I : Inv X pins σ H s) (rv : Vals vs (us ++ ws)) (hus : us.length = np) (hws : ws.length = kw.length)
    (h : Here X.K G0 H0 G μ H) (r : RepL X.K G.F H G.as vs ds fp) (nd : fp.Nodup) (hB : ∀ a ∈ fp, H0 a = none) (pl : placed np kw ds g.ps 0 = some zs) (out : Out X.K X.mg G0 H0 (atS W σ) (fun d μ' => OkP X.K G0 H0 μ' d Q) (callV g zs μ)) :
    wpAny (model X.prog X.w) X.A (call (.ref f) us (kw.zip ws)) (EP X pins σ Q) X.xe s := by
  unfold callV at out
  split at out
  rotate_left
  · exact out.elim
  rename_i hc1
  split at out
  rotate_left
  · exact out.elim
  rename_i es hes
  obtain ⟨G1, h1, r1, ha⟩ := h.settleL r hB
  obtain ⟨ws', zs', h3, h4, h5⟩ := placed_rel rv r1 g.ps 0 (placed_frz g.ps 0 pl)
  have hb := B s us ws zs' I.kIn hus hws h3
  have r0 := viewL_rep (view_rep h1.cells 4) _ _ _ h5 hes
  have c0 : Cells X.K ⟨allF G1 H, []⟩ [] H := by
    refine ⟨fun a o e => ?_, rfl, List.nodup_nil, fun a z => (nomatch z), fun j a ds e1 e2 => by simp at e1⟩
    show H a = some o
    have e : allF G1 H a = some o := e
    unfold allF at e
    split at e
    · rename_i o' ho
      cases e
      exact h1.cells.same _ _ ho
    · split at e
      · exact e
      · cases e
  have hl : es.length = g.ps.length := by
    have : ∀ (xs : List D) (ys : List D), mapO (viewD 4 μ) xs = some ys → ys.length = xs.length := fun xs => by
      induction xs with
      | nil => intro ys e; simp only [mapO] at e; cases e; rfl
      | cons x xs ih =>
        intro ys e
        obtain ⟨y, zs, _, e2, rfl⟩ := mapO_cons e
        simp [ih zs e2]
    rw [this _ _ hes, frzL_length]; exact hc1
  refine wpAny_call (codeAny_mono (F.run X.A X.stack s H ⟨us, kw.zip ws⟩ zs' ws' Q (atS W σ) hr hgd I.env0 hb h4 ⟨⟨allF G1 H, []⟩, [], es, c0, r0, hl, ?_⟩) fun rr s' hq => ?_)
  · split at out
    · rename_i d he
      rw [he]
      split at out
      rotate_left
      · exact out.elim
      rename_i hd
      intro G2 H2 v fp h2 r2 n2 b2
      have fr : ∀ b o, H b = some o → H2 b = some o := fun b o e => h2.ext.fr b o e (by simp)
      have hh : Here X.K G1 H G1 μ H2 := by
        refine ⟨⟨Same.refl _, ⟨[], by simp, by simp⟩, fun b o e _ => fr b o e, fun b o _ hf _ => hf, h2.ext.tr⟩, ⟨fun a o e => fr a o (h1.cells.same a o e), h1.cells.len, h1.cells.nd, fun a z => ?_, fun k a ds e1 e2 => ?_⟩⟩
        · obtain ⟨o, e⟩ := h1.cells.there a z
          exact ⟨o, fr a o e⟩
        · obtain ⟨p1, vs, p2, p3⟩ := h1.cells.lst k a ds e1 e2
          exact ⟨p1, vs, fr _ _ p2, p3.set (Same.refl _) (fun _ _ z => z) rfl⟩
      exact out _ _ v [] (h1.go hh) (rep_sc r2 hd) List.nodup_nil (by simp)
    · exact out.elim
  · cases rr with
    | error e => exact passAt tk σ pins H s e s' I hq
    | ok fl =>
      cases fl with
      | ret u => exact I.after hq
      | next => exact False.elim hq
      | brk => exact False.elim hq
      | cont => exact False.elim hq
/-- the callee runs -/
theorem call_run {x : Str} {g : Den} {np : Nat} {kw : List Str} {f : Addr} {fd : FuncData} (hr : Room k X.A) (hgd : X.A.guards = some []) (tk : Takes X W) (F : FnG X.prog X.w X.K X.mg X.base k f fd g) (B : Bd X.K fd g.ps np kw)
    {pins : List (Addr × Obj)} {s : Shared} {σ : L2.St} {H H0 : Hp} {Q : VK} {G0 G : Gh} {μ : Store} {ds zs : List D} {fp : List Addr} {vs : List V} {us ws : List Value} (I : Inv X pins σ H s) (rv : Vals vs (us ++ ws)) (hus : us.length = np) (hws : ws.length = kw.length)
    (h : Here X.K G0 H0 G μ H) (r : RepL X.K G.F H G.as vs ds fp) (nd : fp.Nodup) (hB : ∀ a ∈ fp, H0 a = none) (pl : placed np kw ds g.ps 0 = some zs) (out : Out X.K X.mg G0 H0 (atS W σ) (fun d μ' => OkP X.K G0 H0 μ' d Q) (callD g zs μ)) :
    wpAny (model X.prog X.w) X.A (call (.ref f) us (kw.zip ws)) (EP X pins σ Q) X.xe s := by
  unfold callD at out
  split at out
  rotate_left
  · exact call_runV hr hgd tk F B I rv hus hws h r nd hB pl out
  rename_i hc
  obtain ⟨hc1, hc2, hc3⟩ := hc
  split at out
  rotate_left
  · exact call_runV hr hgd tk F B I rv hus hws h r nd hB pl out
  rename_i cs hcs
  -- all that is handed on is frozen, but the cells
  obtain ⟨G1, h1, r1, ha⟩ := h.settleL r hB
  obtain ⟨ws', zs', h3, h4, h5⟩ := placed_rel rv r1 g.ps 0 (placed_frz g.ps 0 pl)
  have hb := B s us ws zs' I.kIn hus hws h3
  obtain ⟨lcs, gcs⟩ := getCs_at hcs
  generalize hks : ptrs (frzL zs) = ks at *
  have lt : ∀ k ∈ ks, k < μ.length := fun k hk => by
    obtain ⟨j, hj⟩ := List.getElem?_of_mem hk
    obtain ⟨xs, _, q, _⟩ := gcs j k hj
    exact (List.getElem?_eq_some_iff.mp q).1
  have as_lt : ∀ k ∈ ks, ∃ a, G1.as[k]? = some a := fun k hk => ⟨_, List.getElem?_eq_getElem (by rw [h1.cells.len]; exact lt k hk)⟩
  have c0 : Cells X.K ⟨G1.F, asOf G1.as ks⟩ cs H := by
    refine ⟨h1.cells.same, by show (asOf G1.as ks).length = _; rw [lcs]; simp [asOf], ?_, fun a z => ?_, fun j a ds e1 e2 => ?_⟩
    · refine List.nodup_iff_pairwise_ne.mpr (List.pairwise_map.mpr ((List.nodup_iff_pairwise_ne.mp hc3).imp_of_mem fun {k1 k2} m1 m2 ne e => ?_))
      obtain ⟨a1, q1⟩ := as_lt k1 m1
      obtain ⟨a2, q2⟩ := as_lt k2 m2
      rw [q1, q2] at e
      cases e
      exact ne (nd_ix h1.cells.nd q1 q2)
    · obtain ⟨k, hk, e⟩ := List.mem_map.mp (show a ∈ asOf G1.as ks from z)
      obtain ⟨b, hb⟩ := as_lt k hk
      rw [hb] at e
      cases e
      exact h1.cells.there b (List.mem_of_getElem? hb)
    · have hj : j < ks.length := by
        have := (List.getElem?_eq_some_iff.mp e2).1
        rw [lcs] at this; exact this
      have hk : ks[j]? = some ks[j] := List.getElem?_eq_getElem hj
      obtain ⟨b, hb⟩ := as_lt ks[j] (List.getElem_mem hj)
      have e1' : (asOf G1.as ks)[j]? = some a := e1
      rw [asOf_get hk, hb] at e1'
      cases e1'
      obtain ⟨xs, q1, q2, q3⟩ := gcs j ks[j] hk
      rw [q1] at e2
      cases e2
      obtain ⟨p1, vs, p2, p3⟩ := h1.cells.lst ks[j] b ds hb q2
      exact ⟨p1, vs, p2, repL_low (n := 0) (fun k a z _ => absurd z (Nat.not_lt_zero _)) _ _ _ p3 q3 (by simp)⟩
  have r0 := renum_rep (frzL zs) ws' [] h5 hc2
  rw [List.nil_append, hks] at r0
  have hl : (renum 0 (frzL zs)).length = g.ps.length := by
    have : ∀ (ds : List D) (n : Nat), (renum n ds).length = ds.length := fun ds => by
      induction ds with
      | nil => intro n; rfl
      | cons d ds ih => intro n; cases d <;> simp [renum, ih]
    rw [this, frzL_length]; exact hc1
  refine wpAny_call (codeAny_mono (F.run X.A X.stack s H ⟨us, kw.zip ws⟩ zs' ws' Q (atS W σ) hr hgd I.env0 hb h4 ⟨⟨G1.F, asOf G1.as ks⟩, cs, renum 0 (frzL zs), c0, r0, hl, ?_⟩) fun rr s' hq => ?_)
  · split at out
    · rename_i d μ' he
      rw [he]
      split at out
      rotate_left
      · exact out.elim
      rename_i hd
      obtain ⟨hd1, hd2, hd3⟩ := hd
      intro G2 H2 v fp h2 r2 n2 b2
      obtain ⟨hh, ea⟩ := h2.back h1.cells lt hc3 hd2 hd3
      exact out _ _ v fp (h1.go hh) (rep_low (n := 0) (fun k a z _ => absurd z (Nat.not_lt_zero _)) d v fp r2 hd1 fun b hb z => by
        obtain ⟨o, e⟩ := h1.cells.there b z
        rw [b2 b hb] at e; cases e) n2 fun a z => h1.ext.none (b2 a z)
    · rename_i c μ' he
      rw [he]
      split at out
      rotate_left
      · exact out.elim
      rename_i hd
      exact fun G2 H2 h2 C hC => out _ _ (h1.go (h2.back h1.cells lt hc3 hd.1 hd.2).1) C hC
    · exact out.elim
  · cases rr with
    | error e => exact passAt tk σ pins H s e s' I hq
    | ok fl =>
      cases fl with
      | ret u => exact I.after hq
      | next => exact False.elim hq
      | brk => exact False.elim hq
      | cont => exact False.elim hq
end
end Pyf

/-! Pyf, part K: calls as expressions; what is walked; targets; comprehensions. -/
namespace Pyf
open PySem PySem.Spec PyProof.Rows L2
open PySem (Str)

theorem Out.baseE {K : PySem.W.Frag} {mg : Str → Option Value} {G0 G : Gh} {H0 H : Hp} {W : XK} {μ : Store} {α : Type} {P P' : α → Store → Prop} {r : Res α} (h : Out K mg G0 H0 W P r) (x : Here K G0 H0 G μ H) (hp : ∀ a μ, r = .ok a μ → P a μ → P' a μ) : Out K mg G H W P' r := by
  cases r with
  | ok a μ => exact hp a μ rfl h
  | exc c μ => exact fun G' H' x' C hC => h G' H' (x.go x') C hC
  | bad => exact h
def Es.len : Es → Nat
  | .nil => 0
  | .cons _ es => es.len + 1
theorem evs_len : ∀ (es : Es) {ρ : Slots} {μ μ' : Store} {xs : List D}, evs es ρ μ = .ok xs μ' → xs.length = es.len
  | .nil, _, _, _, _, e => by cases e; rfl
  | .cons a es, ρ, μ, μ', xs, e => by
    simp only [evs] at e
    cases h1 : (ev a).e ρ μ with
    | bad => rw [h1] at e; cases e
    | exc c m => rw [h1] at e; cases e
    | ok x μ1 =>
      rw [h1] at e
      simp only [Res.bind_ok] at e
      cases h2 : evs es ρ μ1 with
      | bad => rw [h2] at e; cases e
      | exc c m => rw [h2] at e; cases e
      | ok ys μ2 =>
        rw [h2] at e
        cases e
        simp only [List.length_cons, Es.len, evs_len es h2]

section
variable {X : Cx} {W : WX} {k : Nat} {pos : Pos} {pe : Expr} {pes : List Expr} {e : E} {es : Es} {kws : List Keyword} {ks : Es}
abbrev SK (X : Cx) (W : WX) (kws : List Keyword) (m : Slots → Store → Res (List D)) : Prop := PK X kws (TAv X.K X.mg W m)
theorem sk_nil : SK X W [] (evs .nil) := ⟨fun pos pins s σ H Q I ⟨G, ρ, μ, rel, o⟩ => pk_nil.run pos pins s σ H Q I (o G H [] [] rel.here .nil List.nodup_nil (by simp))⟩
theorem sk_cons {nm : Option Str} {kpos : Pos} (ha : SE X W pe (ev e).e) (hr : SK X W kws (evs ks)) : SK X W (⟨nm, pe, kpos⟩ :: kws) (evs (.cons e ks)) :=
  ⟨fun pos pins s σ H Q I ⟨G, ρ, μ, rel, o⟩ => (pk_cons ha hr).run pos pins s σ H Q I ⟨G, ρ, μ, rel, (Out.bind o).mono fun d1 μ1 o1 G1 H1 x fp1 h1 r1 n1 b1 =>
    ⟨G1, ρ, μ1, rel.go h1, (Out.bind o1).base h1 fun ds μ2 o2 G2 H2 xs fp2 h2 r2 n2 b2 => o2 G2 H2 (x :: xs) (fp1 ++ fp2) (h1.go h2) (.cons (r1.mono h2.ext) r2) (new_nodup r1 n1 n2 b2) fun a ha =>
      (List.mem_append.mp ha).elim (b1 a) fun z => h1.ext.none (b2 a z)⟩⟩⟩
theorem kws_some {pos : Pos} {env : Env} : ∀ {kws : List Keyword}, kws.all (fun k => k.arg.isSome) = true → (backToKw pos (keywordEach kws env)).all (·.1.isSome) = true ∧ (backToKw pos (keywordEach kws env)).any (·.1.isNone) = false ∧
    (backToKw pos (keywordEach kws env)).filterMap (·.1) = kws.filterMap (·.arg)
  | [], _ => ⟨rfl, rfl, rfl⟩
  | ⟨nm, v, p⟩ :: kws, h => by
    rw [List.all_cons, Bool.and_eq_true] at h
    obtain ⟨h1, h2, h3⟩ := kws_some (pos := pos) (env := env) h.2
    cases nm with
    | none => cases h.1
    | some x => exact ⟨h1, h2, congrArg (x :: ·) h3⟩

/-- what is left behind the arguments by place -/
def Aft (X : Cx) (W : WX) (σ : L2.St) (Q : VK) (G : Gh) (H : Hp) (np : Nat) (g : Den) (kw : List Str) (ρ : Slots) (ks : Es) (vs : List V) (H1 : Hp) : Prop := ∃ (G1 : Gh) (μ1 : Store) (ds : List D) (fp : List Addr),
  Here X.K G H G1 μ1 H1 ∧ RepL X.K G1.F H1 G1.as vs ds fp ∧ fp.Nodup ∧ (∀ a ∈ fp, H a = none) ∧ ds.length = np ∧
  Out X.K X.mg G H (atS W σ) (fun d μ' => OkP X.K G H μ' d Q) ((evs ks ρ μ1).bind fun ys μ2 => match placed ds.length kw (ds ++ ys) g.ps 0 with | some zs => callD g zs μ2 | none => .bad)
theorem aft_of {x : Str} {σ : L2.St} {H : Hp} {Q : VK} {G : Gh} {ρ : Slots} {μ : Store} {g : Den} {kw : List Str} (rel : Rel X.K G ρ μ σ H) (o : Out X.K X.mg G H (atS W σ) (fun d μ' => OkP X.K G H μ' d Q) ((ev (.call x g es ks kw)).e ρ μ)) :
    TAv X.K X.mg W (evs es) σ H (Aft X W σ Q G H es.len g kw ρ ks) :=
  ⟨G, ρ, μ, rel, (Out.bind o).baseE rel.here fun ds μ1 he o1 G1 H1 vs fp h1 r1 n1 b1 => ⟨G1, μ1, ds, fp, h1, r1, n1, b1, evs_len es he, o1⟩⟩
theorem aft_nokw {σ : L2.St} {H H1 : Hp} {Q : VK} {G : Gh} {ρ : Slots} {g : Den} {x : Str} {f : Addr} {fd : FuncData} {np : Nat} {vs : List V} {us : List Value} {s1 : Shared} {pins : List (Addr × Obj)} (hr : Room k X.A) (hgd : X.A.guards = some []) (tk : Takes X W)
    (F : FnG X.prog X.w X.K X.mg X.base k f fd g) (B : Bd X.K fd g.ps np []) (I1 : Inv X pins σ H1 s1) (rv : Vals vs us) (q : Aft X W σ Q G H np g [] ρ .nil vs H1) : wpAny (model X.prog X.w) X.A (call (.ref f) us) (EP X pins σ Q) X.xe s1 := by
  obtain ⟨G1, μ1, ds, fp, h1, r1, n1, b1, hl, o⟩ := q
  simp only [evs, Res.bind_ok, List.append_nil] at o
  split at o
  · rename_i zs hz
    have := call_run (x := x) (ws := []) (kw := []) hr hgd tk F B I1 (by rw [List.append_nil]; exact rv) (by rw [← rv.length, r1.length]; exact hl) rfl h1 r1 n1 b1 (by rw [← hl]; exact hz) o
    exact this
  · exact o.elim
theorem s_call {x : Str} {p : Pos} {g : Den} (hr : Room k X.A) (hgd : X.A.guards = some []) (tk : Takes X W) (hg : Gl X x) (hd : (x == ("__debug__" : Str)) = false) (hF : Fa X.prog X.w X.K X.mg X.base k x g es.len [])
    (hs : (pe :: pes).all notStar = true) (ha : SA X W (pe :: pes) (evs es)) : SE X W (.Call (.Name x p) (pe :: pes) [] pos) (ev (.call x g es .nil [])).e := by
  have st : starEach (pe :: pes) X.env = (false, eval pe X.env) :: starEach pes X.env := star_cons (by rw [List.all_cons, Bool.and_eq_true] at hs; exact hs.1)
  have pl : (backTo pos (starEach pes X.env)).any (·.1) = false := star_plain (by rw [List.all_cons, Bool.and_eq_true] at hs; exact hs.2)
  obtain ⟨f, fd, hm, hk, F, B⟩ := hF
  refine ⟨fun pins s σ H Q I ⟨G, ρ, μ, rel, o⟩ => ?_⟩
  refine wpAny_Call_Name_kw (ld_glob I hg hm ?_ hd)
  exact PySem.W.callWith_K (h₀ := X.base) I.ok.mod.kin hk (thn (ha.run pos pins s σ H _ I (aft_of rel o)) fun us s1 ⟨vs, H1, I1, rv, q⟩ => ⟨I1.kIn, aft_nokw (x := x) hr hgd tk F B I1 rv q⟩) st pl
theorem s_call0 {x : Str} {p : Pos} {g : Den} (hr : Room k X.A) (hgd : X.A.guards = some []) (tk : Takes X W) (hg : Gl X x) (hd : (x == ("__debug__" : Str)) = false) (hF : Fa X.prog X.w X.K X.mg X.base k x g 0 []) :
    SE X W (.Call (.Name x p) [] [] pos) (ev (.call x g .nil .nil [])).e := by
  obtain ⟨f, fd, hm, hk, F, B⟩ := hF
  refine ⟨fun pins s σ H Q I ⟨G, ρ, μ, rel, o⟩ => ?_⟩
  refine wpAny_Call_Name_kw (ld_glob I hg hm ?_ hd)
  refine PySem.W.callWith_K0 I.kIn hk ?_
  exact aft_nokw (x := x) (ρ := ρ) (np := 0) (us := []) (vs := []) hr hgd tk F B I .nil ⟨G, μ, [], [], rel.here, .nil, List.nodup_nil, by simp, rfl, o⟩
theorem aft_kw {σ : L2.St} {H H1 : Hp} {Q : VK} {G : Gh} {ρ : Slots} {g : Den} {f : Addr} {fd : FuncData} {kw : List Str} {np : Nat} {vs : List V} {us : List Value} {s1 : Shared} {pins : List (Addr × Obj)} (hr : Room k X.A) (hgd : X.A.guards = some []) (tk : Takes X W)
    (F : FnG X.prog X.w X.K X.mg X.base k f fd g) (B : Bd X.K fd g.ps np kw) (hkl : ks.len = kw.length) (hkw : SK X W kws (evs ks)) (hρ : ∀ (G1 : Gh) (μ1 : Store), Here X.K G H G1 μ1 H1 → Rel X.K G1 ρ μ1 σ H1) (I1 : Inv X pins σ H1 s1) (rv : Vals vs us) (q : Aft X W σ Q G H np g kw ρ ks vs H1)
    {P : Value → Shared → Prop} (fin : ∀ (ws : List Value) (s2 : Shared), X.K.In s2.heap → wpAny (model X.prog X.w) X.A (call (.ref f) us (kw.zip ws)) (EP X pins σ Q) X.xe s2 → wpAny (model X.prog X.w) X.A (call (.ref f) us (kw.zip ws)) P X.xe s2) :
    wpAny (model X.prog X.w) X.A (evalAll ((backToKw pos (keywordEach kws X.env)).map (·.2))) (fun ws s2 => X.K.In s2.heap ∧ wpAny (model X.prog X.w) X.A (call (.ref f) us (kw.zip ws)) P X.xe s2) X.xe s1 := by
  obtain ⟨G1, μ1, ds, fp, h1, r1, n1, b1, hl, o⟩ := q
  refine thn (hkw.run pos pins s1 σ H1 (fun zs H2 => ∃ (G2 : Gh) (μ2 : Store) (ys : List D) (fp2 : List Addr), Here X.K G1 H1 G2 μ2 H2 ∧ RepL X.K G2.F H2 G2.as zs ys fp2 ∧ fp2.Nodup ∧ (∀ a ∈ fp2, H1 a = none) ∧ ys.length = ks.len ∧
      Out X.K X.mg G H (atS W σ) (fun d μ' => OkP X.K G H μ' d Q) (match placed ds.length kw (ds ++ ys) g.ps 0 with | some zs => callD g zs μ2 | none => .bad)) I1
    ⟨G1, ρ, μ1, hρ G1 μ1 h1, (Out.bind o).baseE h1 fun ys μ2 he o2 G2 H2 zs fp2 h2 r2 n2 b2 => ⟨G2, μ2, ys, fp2, h2, r2, n2, b2, evs_len ks he, o2⟩⟩) fun ws s2 ⟨zs, H2, I2, rz, G2, μ2, ys, fp2, h2, r2, n2, b2, hyl, o2⟩ => ⟨I2.kIn, fin ws s2 I2.kIn ?_⟩
  split at o2
  · rename_i zz hz
    exact call_run (x := "") hr hgd tk F B I2 (rv.append rz) (by rw [← rv.length, r1.length]; exact hl) (by rw [← rz.length, r2.length, hyl, hkl]) (h1.go h2) ((r1.mono h2.ext).append r2) (repl_nodup r1 n1 n2 b2)
      (fun a ha => (List.mem_append.mp ha).elim (b1 a) fun z => h1.ext.none (b2 a z)) (by rw [← hl]; exact hz) o2
  · exact o2.elim
theorem s_callK {x : Str} {p : Pos} {g : Den} {kw : List Str} (hr : Room k X.A) (hgd : X.A.guards = some []) (tk : Takes X W) (hg : Gl X x) (hd : (x == ("__debug__" : Str)) = false) (hF : Fa X.prog X.w X.K X.mg X.base k x g es.len kw)
    (hs : (pe :: pes).all notStar = true) (ha : SA X W (pe :: pes) (evs es)) (hks : kws.all (fun k => k.arg.isSome) = true) (hkn : kws.filterMap (·.arg) = kw) (hkl : ks.len = kw.length) (hkw : SK X W kws (evs ks)) :
    SE X W (.Call (.Name x p) (pe :: pes) kws pos) (ev (.call x g es ks kw)).e := by
  have st : starEach (pe :: pes) X.env = (false, eval pe X.env) :: starEach pes X.env := star_cons (by rw [List.all_cons, Bool.and_eq_true] at hs; exact hs.1)
  have pl : (backTo pos (starEach (pe :: pes) X.env)).any (·.1) = false := star_plain hs
  obtain ⟨k1, k2, k3⟩ := kws_some (pos := pos) (env := X.env) hks
  obtain ⟨f, fd, hm, hk, F, B⟩ := hF
  refine ⟨fun pins s σ H Q I ⟨G, ρ, μ, rel, o⟩ => ?_⟩
  refine wpAny_Call_Name_kw (ld_glob I hg hm ?_ hd)
  refine PySem.W.callWith_KW (h₀ := X.base) I.ok.mod.kin hk k1 (thn (ha.run pos pins s σ H _ I (aft_of rel o)) fun us s1 ⟨vs, H1, I1, rv, q⟩ => ?_) (by rw [pl, k2]; rfl) st
  rw [k3, hkn]
  exact aft_kw hr hgd tk F B hkl hkw (fun G1 μ1 h => rel.go h) I1 rv q fun _ _ _ z => z
theorem s_callK0 {x : Str} {p : Pos} {g : Den} {kw : List Str} (hr : Room k X.A) (hgd : X.A.guards = some []) (tk : Takes X W) (hg : Gl X x) (hd : (x == ("__debug__" : Str)) = false) (hF : Fa X.prog X.w X.K X.mg X.base k x g 0 kw)
    (hks : kws.all (fun k => k.arg.isSome) = true) (hkn : kws.filterMap (·.arg) = kw) (hkl : ks.len = kw.length) (hkw : SK X W kws (evs ks)) :
    SE X W (.Call (.Name x p) [] kws pos) (ev (.call x g .nil ks kw)).e := by
  obtain ⟨k1, k2, k3⟩ := kws_some (pos := pos) (env := X.env) hks
  obtain ⟨f, fd, hm, hk, F, B⟩ := hF
  refine ⟨fun pins s σ H Q I ⟨G, ρ, μ, rel, o⟩ => ?_⟩
  refine wpAny_Call_Name_kw (ld_glob I hg hm ?_ hd)
  refine PySem.W.callWith_KW0 (h₀ := X.base) I.ok.mod.kin hk k1 ?_ (by rw [k2]; rfl)
  rw [k3, hkn]
  exact aft_kw (np := 0) (us := []) (vs := []) hr hgd tk F B hkl hkw (fun G1 μ1 h => rel.go h) I .nil ⟨G, μ, [], [], rel.here, .nil, List.nodup_nil, by simp, rfl, o⟩ fun _ _ _ z => z
end
end Pyf

/-! Pyf, part L: what is walked; targets; comprehensions. -/
namespace Pyf
open PySem PySem.Spec PyProof.Rows L2
open PySem (Str)

/-! ### iterators by trees -/
/-- a list that stands while the loop runs -/
def LS (K : PySem.W.Frag) (G1 : Gh) (H1 : Hp) (a : Addr) (J : Items) : Prop := ∀ (G2 : Gh) (μ2 : Store) (H2 : Hp), Here K G1 H1 G2 μ2 H2 → lvOk J.lv μ2 → ∃ vs, SqL K H2 a vs ∧ RepL K G2.F H2 G2.as vs J.ds []
/-- the walk j yields the items J -/
def Yl (K : PySem.W.Frag) (G1 : Gh) (H1 : Hp) (j : It) (J : Items) : Prop := ∀ (i : Nat) (G2 : Gh) (μ2 : Store) (H2 : Hp), Here K G1 H1 G2 μ2 H2 → lvOk J.lv μ2 →
  (i < J.ds.length → j.go i H2) ∧ (J.ds.length ≤ i → j.stop i H2) ∧
    (∀ d, J.ds[i]? = some d → ∀ x H3, j.yld i H2 x H3 → ∃ fp, Here K G2 H2 G2 μ2 H3 ∧ Rep K G2.F H3 G2.as x d fp ∧ fp.Nodup ∧ ∀ a ∈ fp, H2 a = none)
def TIv (K : PySem.W.Frag) (mg : Str → Option Value) (W : WX) (m : Slots → Store → Res Items) : TI := fun σ H R => ∃ (G : Gh) (ρ : Slots) (μ : Store), Rel K G ρ μ σ H ∧
  Out K mg G H (atS W σ) (fun J μ' => ∀ (G1 : Gh) (H1 : Hp) (j : It), Here K G H G1 μ' H1 → Yl K G1 H1 j J → R j H1) (m ρ μ)
abbrev SI (X : Cx) (W : WX) (tg pe : Expr) (m : Slots → Store → Res Items) : Prop := PI X tg pe (TIv X.K X.mg W m)

section
variable {K : PySem.W.Frag} {G1 : Gh} {H1 : Hp} {a b : Addr} {J J' : Items}
theorem ls_settled {ds : List D} {vs : List V} (hq : SqL K G1.F a vs) (r : RepL K G1.F H1 G1.as vs ds []) : LS K G1 H1 a ⟨ds, []⟩ := fun G2 μ2 H2 h _ => ⟨vs, sqL_mono (h.ext.f.trans h.cells.same) hq, r.mono h.ext⟩
theorem ls_cell {k : Nat} {ds : List D} (hk : G1.as[k]? = some a) : LS K G1 H1 a ⟨ds, [(k, ds)]⟩ := fun G2 μ2 H2 h lv => by
  obtain ⟨l, e, _⟩ := h.ext.as
  have hk' : G2.as[k]? = some a := by rw [e]; exact get_append hk
  obtain ⟨_, vs, hv, r⟩ := h.cells.lst k a ds hk' (lv _ List.mem_cons_self)
  exact ⟨vs, SqL.of hv, r⟩
theorem yl_list (h : LS K G1 H1 a J) : Yl K G1 H1 (Itl K a) J := fun i G2 μ2 H2 hh lv => by
  obtain ⟨vs, hq, r⟩ := h G2 μ2 H2 hh lv
  refine ⟨fun hi => ⟨vs, vs[i]'(by rw [r.length]; exact hi), hq, List.getElem?_eq_getElem _⟩, fun hi => ⟨vs, hq, by rw [r.length]; exact hi⟩, fun d hd x H3 y => ?_⟩
  obtain ⟨e, y⟩ := y
  subst e
  obtain ⟨v, hv, rv⟩ := r.get0 hd
  have := y vs hq
  rw [hv] at this
  cases this
  exact ⟨[], Here.start hh.cells, rv, List.nodup_nil, by simp⟩
theorem yl_tup {ds : List D} {vs : List V} (hq : G1.F a = some (.tup vs)) (r : RepL K G1.F H1 G1.as vs ds []) : Yl K G1 H1 (Itt K a) ⟨ds, []⟩ := fun i G2 μ2 H2 hh lv => by
  have hq' : SqT K H2 a vs := SqT.of (hh.cells.same _ _ (hh.ext.f _ _ hq))
  have r' := r.mono hh.ext
  refine ⟨fun hi => ⟨vs, vs[i]'(by rw [r.length]; exact hi), hq', List.getElem?_eq_getElem _⟩, fun hi => ⟨vs, hq', by rw [r.length]; exact hi⟩, fun d hd x H3 y => ?_⟩
  obtain ⟨e, y⟩ := y
  subst e
  obtain ⟨v, hv, rv⟩ := r'.get0 hd
  have := y vs hq'
  rw [hv] at this
  cases this
  exact ⟨[], Here.start hh.cells, rv, List.nodup_nil, by simp⟩
theorem yl_str {x : Str} : Yl K G1 H1 (Its x) ⟨x.cps.toList.map fun c => .str ⟨#[c]⟩, []⟩ := fun i G2 μ2 H2 hh lv => by
  refine ⟨fun hi => ?_, fun hi => ?_, fun d hd x H3 y => ?_⟩
  · show i < x.cps.size
    simpa using hi
  · show x.cps.size ≤ i
    simpa using hi
  · obtain ⟨e, c, hc, rfl⟩ := y
    subst e
    simp only [List.getElem?_map, Array.getElem?_toList, hc, Option.map_some, Option.some.injEq] at hd
    subst hd
    exact ⟨[], Here.start hh.cells, .str _, List.nodup_nil, by simp⟩
theorem rangeL_len : ∀ (n : Nat) (lo c : Int), (rangeL lo c n).length = n
  | 0, _, _ => rfl
  | n + 1, lo, c => by simp only [rangeL, List.length_cons, rangeL_len n]
theorem rangeL_get : ∀ (n i : Nat) (lo c : Int), i < n → (rangeL lo c n)[i]? = some (.int (lo + i * c))
  | 0, i, _, _, h => absurd h (Nat.not_lt_zero _)
  | n + 1, 0, lo, c, _ => by simp [rangeL]
  | n + 1, i + 1, lo, c, h => by
    simp only [rangeL, List.getElem?_cons_succ]
    rw [rangeL_get n i (lo + c) c (by omega)]
    congr 2
    rw [Int.add_assoc, show ((i + 1 : Nat) : Int) = (i : Int) + 1 from rfl, Int.add_mul, Int.one_mul, Int.add_comm c]
theorem yl_rng {lo : Int} {n : Nat} : Yl K G1 H1 (Itr lo n) ⟨rangeL lo 1 n, []⟩ := fun i G2 μ2 H2 hh lv => by
  refine ⟨fun hi => show i < n by simpa [rangeL_len] using hi, fun hi => show n ≤ i by simpa [rangeL_len] using hi, fun d hd x H3 y => ?_⟩
  obtain ⟨e, rfl⟩ := y
  subst e
  have hi : i < n := by have := (List.getElem?_eq_some_iff.mp hd).1; simpa [rangeL_len] using this
  rw [rangeL_get n i lo 1 hi] at hd
  cases hd
  exact ⟨[], Here.start hh.cells, by rw [Int.mul_one]; exact .int _, List.nodup_nil, by simp⟩
theorem yl_rngC {lo c : Int} {n : Nat} : Yl K G1 H1 (Itc lo c n) ⟨rangeL lo c n, []⟩ := fun i G2 μ2 H2 hh lv => by
  refine ⟨fun hi => show i < n by simpa [rangeL_len] using hi, fun hi => show n ≤ i by simpa [rangeL_len] using hi, fun d hd x H3 y => ?_⟩
  obtain ⟨e, rfl⟩ := y
  subst e
  have hi : i < n := by have := (List.getElem?_eq_some_iff.mp hd).1; simpa [rangeL_len] using this
  rw [rangeL_get n i lo c hi] at hd
  cases hd
  exact ⟨[], Here.start hh.cells, .int _, List.nodup_nil, by simp⟩
theorem enumL_get : ∀ (xs : List D) (n i : Nat), (enumL n xs)[i]? = xs[i]?.map fun x => .tup [.int ((n + i : Nat) : Int), x]
  | [], n, i => by simp [enumL]
  | x :: xs, n, 0 => by simp [enumL]
  | x :: xs, n, i + 1 => by
    simp only [enumL, List.getElem?_cons_succ]
    rw [enumL_get xs (n + 1) i, show n + 1 + i = n + (i + 1) by omega]
theorem enumL_len : ∀ (xs : List D) (n : Nat), (enumL n xs).length = xs.length
  | [], n => rfl
  | x :: xs, n => by simp only [enumL, List.length_cons, enumL_len xs]
theorem yl_enum (h : LS K G1 H1 a J) : Yl K G1 H1 (Ite K a) ⟨enumL 0 J.ds, J.lv⟩ := fun i G2 μ2 H2 hh lv => by
  obtain ⟨vs, hq, r⟩ := h G2 μ2 H2 hh lv
  refine ⟨fun hi => ⟨vs, vs[i]'(by rw [r.length]; simpa [enumL_len] using hi), hq, List.getElem?_eq_getElem _⟩, fun hi => ⟨vs, hq, by rw [r.length]; simpa [enumL_len] using hi⟩, fun d hd x H3 y => ?_⟩
  obtain ⟨T, z, rfl, hT, e, y⟩ := y
  subst e
  have hd : (enumL 0 J.ds)[i]? = some d := hd
  rw [enumL_get, Option.map_eq_some_iff] at hd
  obtain ⟨w, hw, rfl⟩ := hd
  obtain ⟨v, hv, rv⟩ := r.get0 hw
  have hz := y vs hq
  rw [hv] at hz
  cases hz
  have hst : Here K G2 H2 G2 μ2 H2 := Here.start hh.cells
  refine ⟨[T], hst.new hT, .ntup (hh.cells.none hT) (hh.cells.nin hT) upd_same ?_, by simp, by simpa using hT⟩
  rw [Nat.zero_add]
  exact RepL.cons (fp := []) (fps := []) (.int _) (RepL.cons (fp := []) (fps := []) (rv.mono (ext_new G2 hT)) .nil)
theorem zipL_get : ∀ (xs ys : List D) (i : Nat) {d : D}, (zipL xs ys)[i]? = some d → ∃ x y, xs[i]? = some x ∧ ys[i]? = some y ∧ d = .tup [x, y]
  | [], ys, i, d, h => by simp [zipL] at h
  | x :: xs, [], i, d, h => by simp [zipL] at h
  | x :: xs, y :: ys, 0, d, h => by simp [zipL] at h; exact ⟨x, y, rfl, rfl, h.symm⟩
  | x :: xs, y :: ys, i + 1, d, h => by
    simp only [zipL, List.getElem?_cons_succ] at h ⊢
    exact zipL_get xs ys i h
theorem zipL_len : ∀ (xs ys : List D), (zipL xs ys).length = min xs.length ys.length
  | [], ys => by simp [zipL]
  | x :: xs, [] => by simp [zipL]
  | x :: xs, y :: ys => by simp only [zipL, List.length_cons, zipL_len xs ys]; omega
theorem yl_zip (h : LS K G1 H1 a J) (h' : LS K G1 H1 b J') : Yl K G1 H1 (Itz K a b) ⟨zipL J.ds J'.ds, J.lv ++ J'.lv⟩ := fun i G2 μ2 H2 hh lv => by
  obtain ⟨vs, hq, r⟩ := h G2 μ2 H2 hh fun p hp => lv p (List.mem_append_left _ hp)
  obtain ⟨ws, hq', r'⟩ := h' G2 μ2 H2 hh fun p hp => lv p (List.mem_append_right _ hp)
  refine ⟨fun hi => ?_, fun hi => ⟨vs, ws, hq, hq', ?_⟩, fun d hd x H3 y => ?_⟩
  · have hi : i < (zipL J.ds J'.ds).length := hi
    rw [zipL_len] at hi
    exact ⟨vs, ws, vs[i]'(by rw [r.length]; omega), ws[i]'(by rw [r'.length]; omega), hq, hq', List.getElem?_eq_getElem _, List.getElem?_eq_getElem _⟩
  · have hi : (zipL J.ds J'.ds).length ≤ i := hi
    rw [zipL_len] at hi
    rw [r.length, r'.length]; omega
  · obtain ⟨T, z1, z2, rfl, hT, e, y1, y2⟩ := y
    subst e
    obtain ⟨w1, w2, hw1, hw2, rfl⟩ := zipL_get _ _ _ (show (zipL J.ds J'.ds)[i]? = some d from hd)
    obtain ⟨v, hv, rv⟩ := r.get0 hw1
    obtain ⟨v', hv', rv'⟩ := r'.get0 hw2
    have hz := y1 vs hq
    have hz' := y2 ws hq'
    rw [hv] at hz
    rw [hv'] at hz'
    cases hz
    cases hz'
    have hst : Here K G2 H2 G2 μ2 H2 := Here.start hh.cells
    exact ⟨[T], hst.new hT, .ntup (hh.cells.none hT) (hh.cells.nin hT) upd_same (RepL.cons (fp := []) (fps := []) (rv.mono (ext_new G2 hT)) (RepL.cons (fp := []) (fps := []) (rv'.mono (ext_new G2 hT)) .nil)), by simp, by simpa using hT⟩
end

section
variable {X : Cx} {W : WX} {pos : Pos} {pe pa pb tg : Expr} {pes : List Expr} {e a b : E} {es : Es}
/-- a list told as items, frozen if it was held alone -/
theorem listItems_at {G0 G : Gh} {H0 H : Hp} {μ : Store} {d : D} {x : V} {fp : List Addr} {J : Items} (h : Here X.K G0 H0 G μ H) (r : Rep X.K G.F H G.as x d fp) (hB : ∀ a ∈ fp, H0 a = none) (e : listItems μ d = some J) :
    ∃ G' a vs, Here X.K G0 H0 G' μ H ∧ x = .ref a ∧ SqL X.K H a vs ∧ LS X.K G' H a J ∧ G'.as = G.as ∧ Same G.F G'.F := by
  cases r with
  | scr ns hq => cases e; exact ⟨G, _, _, h, rfl, sqL_mono h.cells.same hq, ls_settled hq (rep_ints ns), rfl, Same.refl _⟩
  | lst hq r => cases e; exact ⟨G, _, _, h, rfl, SqL.of (h.cells.same _ _ hq), ls_settled (SqL.of hq) r, rfl, Same.refl _⟩
  | new hF ha hq r =>
    cases e
    obtain ⟨G', h', r', ha', hs⟩ : ∃ G', Here X.K G0 H0 G' μ H ∧ Rep X.K G'.F H G'.as _ (frz (.new _)) [] ∧ G'.as = G.as ∧ Same G.F G'.F :=
      ⟨⟨Pyf.froz G.F H _, G.as⟩, h.froz fun b z => ⟨((Rep.new hF ha hq r).out b z).1, ((Rep.new hF ha hq r).out b z).2.1, hB b z⟩, Rep.frz (fun b z => ((Rep.new hF ha hq r).out b z).1) (Rep.new hF ha hq r) fun b z => z, rfl, froz_same fun b z => ((Rep.new hF ha hq r).out b z).1⟩
    cases r' with
    | lst hq' rr =>
      exact ⟨G', _, _, h', rfl, SqL.of hq, ls_settled (SqL.of hq') rr, ha', hs⟩
  | ptr hk =>
    simp only [listItems] at e
    split at e
    · rename_i xs hx
      cases e
      obtain ⟨_, vs, hv, rv⟩ := h.cells.lst _ _ _ hk hx
      exact ⟨G, _, _, h, rfl, SqL.of hv, ls_cell hk, rfl, Same.refl _⟩
    · cases e
  | _ => cases e
theorem listItems_frz {μ : Store} (d : D) : listItems μ (frz d) = listItems μ d := by cases d <;> rfl
theorem listItems0 {G0 G : Gh} {H0 H : Hp} {μ : Store} {d : D} {x : V} {J : Items} (h : Here X.K G0 H0 G μ H) (r : Rep X.K G.F H G.as x d []) (e : listItems μ d = some J) :
    ∃ a vs, x = .ref a ∧ SqL X.K H a vs ∧ LS X.K G H a J := by
  cases r with
  | scr ns hq => cases e; exact ⟨_, _, rfl, sqL_mono h.cells.same hq, ls_settled hq (rep_ints ns)⟩
  | lst hq r => cases e; exact ⟨_, _, rfl, SqL.of (h.cells.same _ _ hq), ls_settled (SqL.of hq) r⟩
  | ptr hk =>
    simp only [listItems] at e
    split at e
    · rename_i xs hx
      cases e
      obtain ⟨_, vs, hv, rv⟩ := h.cells.lst _ _ _ hk hx
      exact ⟨_, _, rfl, SqL.of hv, ls_cell hk⟩
    · cases e
  | _ => cases e
theorem si_seq (he : SE X W pe (ev e).e) : SI X W tg pe (evI (.seq e)) := by
  refine ⟨fun pins s σ H R I ⟨G, ρ, μ, rel, o⟩ => ?_⟩
  cases hd : (ev e).e ρ μ with
  | bad => simp only [evI, hd] at o; exact o.elim
  | exc c m => simp only [evI, hd] at o; exact (pi_list (tg := tg) he).run pins s σ H R I ⟨G, ρ, μ, rel, by rw [hd]; exact o⟩
  | ok d μ1 =>
    simp only [evI, hd, Res.bind_ok] at o
    obtain ⟨J, eJ, q⟩ := o.ofO
    have viaL : listItems μ1 d = some J → wpAny (model X.prog X.w) X.A (eval pe X.env) (fun v s1 => wpAny (model X.prog X.w) X.A (pyIter v) (PIE X pins σ tg R) X.xe s1) X.xe s := fun eL =>
      (pi_list (tg := tg) he).run pins s σ H R I ⟨G, ρ, μ, rel, by
        rw [hd]
        intro G1 H1 x fp h1 r1 n1 b1
        obtain ⟨G', a, vs, h', rfl, hq, ls, _, _⟩ := listItems_at h1 r1 b1 eL
        exact ⟨a, rfl, ⟨vs, hq⟩, q G' H1 _ h' (yl_list ls)⟩⟩
    cases d with
    | lst xs => exact viaL eJ
    | new xs => exact viaL eJ
    | scr ns => exact viaL eJ
    | ptr k => exact viaL (by simpa only [itemsOf, listItems] using eJ)
    | tup xs =>
      cases eJ
      refine (pi_tup (tg := tg) he).run pins s σ H R I ⟨G, ρ, μ, rel, ?_⟩
      rw [hd]
      intro G1 H1 x fp h1 r1 n1 b1
      obtain ⟨G', h', r', _⟩ := h1.settle r1 b1
      cases r' with
      | tup hq rr => exact ⟨_, rfl, ⟨_, SqT.of (h'.cells.same _ _ hq)⟩, q G' H1 _ h' (yl_tup hq rr)⟩
    | str z =>
      cases eJ
      refine (pi_str (tg := tg) he).run pins s σ H R I ⟨G, ρ, μ, rel, ?_⟩
      rw [hd]
      intro G1 H1 x fp h1 r1 n1 b1
      cases r1
      exact ⟨z, rfl, q G1 H1 _ h1 yl_str⟩
    | _ => cases eJ
theorem small62_ok {i : Int} (h : small62 i = true) : -(2 ^ 62) ≤ i ∧ i < 2 ^ 62 := by
  unfold small62 at h
  have := of_decide_eq_true h
  omega
theorem rg_reps {K : PySem.W.Frag} {F H : Hp} {as : List Addr} (i : Int) : ∀ (n : Nat) (k : Nat), RepL K F H as ((List.range' k n).map fun m => V.int (i + (m : Nat))) (rangeL (i + (k : Nat)) 1 n) []
  | 0, _ => .nil
  | n + 1, k => by
    have := RepL.cons (fp := []) (fps := []) (Rep.int (K := K) (F := F) (H := H) (as := as) (i + (k : Nat))) (rg_reps i n (k + 1))
    rw [List.range'_succ, List.map_cons, rangeL]
    have e : i + (k : Nat) + 1 = i + ((k + 1 : Nat) : Int) := by omega
    rw [e]
    exact this
theorem rg_rep {K : PySem.W.Frag} {F H : Hp} {as : List Addr} (i j : Int) : RepL K F H as (L2.rgV i j) (rangeL i 1 (j - i).toNat) [] := by
  have := rg_reps (K := K) (F := F) (H := H) (as := as) i (j - i).toNat 0
  unfold L2.rgV
  rw [List.range_eq_range']
  simpa using this
theorem s_rgl1 {p p2 q pos : Pos} {x y : Str} (hx : x = "list") (hy : y = "range") (hc : X.calm = true) (hg : Gl X x) (hm : X.mg x = none) (hg2 : Gl X y) (hm2 : X.mg y = none) (hs : notStar pa = true) (ha : SE X W pa (ev a).e) :
    SE X W (.Call (.Name x p) [.Call (.Name y p2) [pa] [] q] [] pos) (ev (.rgl (.k (.int 0)) a)).e := by
  subst hx; subst hy
  refine PE.weak (pe_listRg hc hg hm (prg_1 hg2 hm2 ha (star_cons hs))) fun σ H Q ⟨G, ρ, μ, rel, o⟩ => ⟨G, ρ, μ, rel, ?_⟩
  have o : Out X.K X.mg G H (atS W σ) (fun d μ' => OkP X.K G H μ' d Q) (((ev a).e ρ μ).bind fun y μ2 => rglD (.int 0) y μ2) := o
  refine (Out.bind o).mono fun d μ1 o1 G1 H1 x fp1 h1 r1 n1 b1 => ?_
  unfold rglD at o1
  split at o1
  · rename_i i j e1 
    split at o1
    · rename_i hh
      simp only [Bool.and_eq_true, decide_eq_true_eq] at hh
      cases e1
      cases r1
      have a1 := small62_ok hh.1.2
      refine ⟨_, rfl, ⟨by omega, by omega, a1.1, a1.2, hh.2⟩, fun q hq => ?_⟩
      have o2 : OkP X.K G H μ1 (.new (rangeL 0 1 (j - 0).toNat)) Q := o1
      exact o2.list h1 (rg_rep 0 j) List.nodup_nil (by simp) hq
    · exact o1.elim
  · exact o1.elim
theorem s_rgl2 {p p2 q pos : Pos} {x y : Str} (hx : x = "list") (hy : y = "range") (hc : X.calm = true) (hg : Gl X x) (hm : X.mg x = none) (hg2 : Gl X y) (hm2 : X.mg y = none) (hs : notStar pa = true) (hs2 : notStar pb = true) (ha : SE X W pa (ev a).e) (hb : SE X W pb (ev b).e) :
    SE X W (.Call (.Name x p) [.Call (.Name y p2) [pa, pb] [] q] [] pos) (ev (.rgl a b)).e := by
  subst hx; subst hy
  have st2 := star_cons (pes := []) (env := X.env) hs2
  have st : starEach [pa, pb] X.env = (false, eval pa X.env) :: starEach [pb] X.env := star_cons hs
  refine PE.weak (pe_listRg hc hg hm (prg_2 hg2 hm2 ha hb st st2 (star_plain (by rw [List.all_cons, hs2]; rfl)))) fun σ H Q ⟨G, ρ, μ, rel, o⟩ => ⟨G, ρ, μ, rel, (Out.bind o).mono fun d μ1 o1 G1 H1 x fp1 h1 r1 n1 b1 => ⟨G1, ρ, μ1, rel.go h1, (Out.bind o1).base h1 fun d2 μ2 o2 G2 H2 y fp2 h2 r2 n2 b2 => ?_⟩⟩
  unfold rglD at o2
  split at o2
  · split at o2
    · rename_i hh
      simp only [Bool.and_eq_true, decide_eq_true_eq] at hh
      cases r1
      cases r2
      have a1 := small62_ok hh.1.1
      have a2 := small62_ok hh.1.2
      refine ⟨_, _, rfl, rfl, ⟨a1.1, a1.2, a2.1, a2.2, hh.2⟩, fun q hq => ?_⟩
      have o3 : OkP X.K G H μ2 _ Q := o2
      exact o3.list (h1.go h2) (rg_rep _ _) List.nodup_nil (by simp) hq
    · exact o2.elim
  · exact o2.elim
/-! ### len(set(x)) of ints -/
def tLenSetG (K : PySem.W.Frag) (ta : TE) : TE := fun σ H Q => ta σ H fun x H1 => ∃ (l : Addr) (ns : List Int), x = V.ref l ∧ SqL K H1 l (ns.map V.int) ∧ ns.length < 64 ∧ Q (.int (distN ns)) H1
theorem firstMet_all (ns : List Int) : PyProof.Rows.firstMet (fun i => ns.getD i 0) ns.length = ns.foldl PyProof.Rows.step_dedup [] := by
  unfold PyProof.Rows.firstMet
  congr 1
  apply List.ext_getElem
  · simp
  · intro i h1 h2
    simp [List.getD_eq_getElem?_getD, List.getElem?_eq_getElem h2]
theorem pe_lenSetG {a : Expr} {ta : TE} {p p2 q pos : Pos} (hc : X.calm = true) (hg : Gl X "len") (hm : X.mg "len" = none) (hg2 : Gl X "set") (hm2 : X.mg "set" = none) (ha : PE X a ta)
    (na : starEach [a] X.env = (false, eval a X.env) :: starEach [] X.env) : PE X (.Call (.Name "len" p) [.Call (.Name "set" p2) [a] [] q] [] pos) (tLenSetG X.K ta) := by
  refine ⟨fun pins s σ H Q I h => ?_⟩
  refine Call_ (ld_blt I hg hm PySem.boot_len ?_)
  refine PyProof.Rows.callWith_builtin1 (PyProof.Rows.args_cons ?_ rfl) rfl rfl
  refine Call_ (ld_blt I hg2 hm2 PyProof.Rows.boot_set ?_)
  refine PyProof.Rows.callWith_type1 (PyProof.Rows.args_cons (thn (ha.run pins s σ H _ I h) fun v s1 ⟨x, H1, I1, r1, q1⟩ => PyProof.Rows.args_nil ?_) na) na rfl
  obtain ⟨l, ns, rfl, hq, h1, q1⟩ := q1
  cases r1
  obtain ⟨its, r, pl, hz⟩ := I1.list hq
  have hl : its.toArray.size = ns.length := by rw [List.size_toArray, ← r.length, List.length_map]
  refine call_set_list (I1.ok.hd hc) pl.isList (ns := ns) (by simpa using r.ints) (by unfold scanBound; omega) fun h' tk hS hk => ?_
  have hle := PyProof.Rows.firstMet_length_le (fun i => ns.getD i 0) ns.length
  rw [hl] at hS
  rw [firstMet_all] at hS hle
  refine PyProof.Rows.args_nil ?_
  obtain ⟨o, es, ep, t, ho, hex, hd, _, _, _, hf, hn⟩ := hS
  have I2 : Inv X pins σ H1 { s1 with heap := h', toks := tk } := I1.kept fun b o e => hk b o (Heap.lt_size e) e
  refine call_len_set ho hex hd hf (by rw [hn] <;> omega) ⟨.int (distN ns), H1, I2.tok _, ⟨_, by rw [hn]; rfl⟩, q1⟩
theorem s_lset {p p2 q pos : Pos} {x y : Str} (hx : x = "len") (hy : y = "set") (hc : X.calm = true) (hg : Gl X x) (hm : X.mg x = none) (hg2 : Gl X y) (hm2 : X.mg y = none) (hs : notStar pa = true) (ha : SE X W pa (ev a).e) :
    SE X W (.Call (.Name x p) [.Call (.Name y p2) [pa] [] q] [] pos) (ev (.lset a)).e := by
  subst hx; subst hy
  refine PE.weak (pe_lenSetG hc hg hm hg2 hm2 ha (star_cons hs)) fun σ H Q ⟨G, ρ, μ, rel, o⟩ => ⟨G, ρ, μ, rel, (Out.bind o).mono fun d μ1 o1 G1 H1 x fp1 h1 r1 n1 b1 => ?_⟩
  unfold lsetD at o1
  split at o1
  · rename_i ns e1
    split at o1
    · rename_i hlt
      obtain ⟨l, rfl, hq⟩ := ints_at h1.cells r1 e1
      exact ⟨l, ns, rfl, hq, hlt, OkP.now o1 h1 (.int _)⟩
    · exact o1.elim
  · exact o1.elim
theorem s_bits {apos : Pos} {pos : Pos} (hn : notCall pa = true) (hl : (apos.endLine == pos.line) = true) (ho : SE X W pa (ev a).e) :
    SE X W (.Call (.Attribute pa "bit_length" apos) [] [] pos) (ev (.bits a)).e := by
  refine PE.weak (pe_bits ho (base_of hn) hl) fun σ H Q ⟨G, ρ, μ, rel, o⟩ => ⟨G, ρ, μ, rel, (Out.bind o).mono fun d μ1 o1 G1 H1 x fp1 h1 r1 n1 b1 => ?_⟩
  cases d <;> try exact o1.elim
  rename_i i
  cases r1
  exact ⟨i, rfl, OkP.now o1 h1 (.int _)⟩
theorem one_rep {K : PySem.W.Frag} {F H : Hp} {as : List Addr} {vs : List V} {ds : List D} {fp : List Addr} (r : RepL K F H as vs ds fp) (h : ds.length = 1) : ∃ v d, vs = [v] ∧ ds = [d] ∧ Rep K F H as v d fp := by
  cases r with
  | nil => cases h
  | cons r t => cases t with
    | nil => exact ⟨_, _, rfl, rfl, by rw [List.append_nil]; exact r⟩
    | cons _ _ => simp at h
theorem int_rep {K : PySem.W.Frag} {F H : Hp} {as : List Addr} {v : V} {i : Int} {fp : List Addr} (r : Rep K F H as v (.int i) fp) : v = .int i := by cases r; rfl
theorem rng1 {ds xs : List D} (e : rangeD ds = some xs) (h : ds.length = 1) : ∃ j, ds = [.int j] ∧ small62 j = true ∧ xs = rangeL 0 1 j.toNat := by
  unfold rangeD at e
  split at e
  · split at e
    · rename_i hi; cases e; exact ⟨_, rfl, hi, rfl⟩
    · cases e
  · simp at h
  · simp at h
  · cases e
theorem rng2 {ds xs : List D} (e : rangeD ds = some xs) (h : ds.length = 2) : ∃ i j, ds = [.int i, .int j] ∧ small62 i = true ∧ small62 j = true ∧ xs = rangeL i 1 (j - i).toNat := by
  unfold rangeD at e
  split at e
  · simp at h
  · split at e
    · rename_i hi; rw [Bool.and_eq_true] at hi; cases e; exact ⟨_, _, rfl, hi.1, hi.2, rfl⟩
    · cases e
  · simp at h
  · cases e
theorem rgC_pos {i j c : Int} (hi : small62 i = true) (hj : small62 j = true) (h0 : 0 < c) (h1 : c < 1000000) : RgC i j c (if i < j then (j - i - 1) / c + 1 else 0).toNat := by
  obtain ⟨a1, a2⟩ := small62_ok hi
  obtain ⟨b1, b2⟩ := small62_ok hj
  have e : PySem.Builtin.Range.rangeSize i j c = if i < j then (j - i - 1) / c + 1 else 0 := by
    unfold PySem.Builtin.Range.rangeSize
    rw [if_pos h0]
  have b : 0 ≤ (if i < j then (j - i - 1) / c + 1 else 0) ∧ (if i < j then (j - i - 1) / c + 1 else 0) < 9223372036854775808 := by
    split
    · have q0 : 0 ≤ (j - i - 1) / c := Int.ediv_nonneg (by omega) (by omega)
      have q1 : (j - i - 1) / c ≤ j - i - 1 := Int.ediv_le_self _ (by omega)
      omega
    · omega
  refine ⟨by omega, by omega, ?_, ?_⟩
  · unfold PySem.Builtin.Range.small
    rw [e]
    generalize (if i < j then (j - i - 1) / c + 1 else 0) = n at *
    simp only [PySem.Builtin.Range.rangeFitsLong, Bool.and_eq_true, Bool.or_eq_true, decide_eq_true_eq, beq_iff_eq, h0, if_true]
    omega
  · rw [e]
    omega
theorem rng3 {ds xs : List D} (e : rangeD ds = some xs) (h : ds.length = 3) : ∃ i j c n, ds = [.int i, .int j, .int c] ∧ RgC i j c n ∧ xs = rangeL i c n := by
  unfold rangeD at e
  split at e
  · simp at h
  · simp at h
  · split at e
    · rename_i hi
      rw [Bool.and_eq_true] at hi
      have h1s := small62_ok hi.1
      have h2s := small62_ok hi.2
      split at e
      · rename_i hc; subst hc; cases e; exact ⟨_, _, _, _, rfl, RgC.neg h1s.1 h1s.2 h2s.1 h2s.2, rfl⟩
      · split at e
        · rename_i hc; cases e; exact ⟨_, _, _, _, rfl, rgC_pos hi.1 hi.2 hc.1 hc.2, rfl⟩
        · cases e
    · cases e
  · cases e
theorem si_rng1 {x : Str} {p : Pos} (hx : x = "range") (hg : Gl X x) (hm : X.mg x = none) (hs : notStar pa = true) (hl : es.len = 1) (ha : SA X W [pa] (evs es)) : SI X W tg (.Call (.Name x p) [pa] [] pos) (evI (.rng es)) := by
  subst hx
  have st := star_cons (pes := []) (env := X.env) hs
  refine ⟨fun pins s σ H R I ⟨G, ρ, μ, rel, o⟩ => (pi_range1 (tg := tg) hg hm ha st).run pins s σ H R I ⟨G, ρ, μ, rel, (Out.bind o).baseE rel.here fun ds μ1 he o1 G1 H1 vs fp h1 r1 n1 b1 => ?_⟩⟩
  obtain ⟨J, eJ, q⟩ := o1.ofO
  simp only [Option.map_eq_some_iff] at eJ
  obtain ⟨xs, eJ, rfl⟩ := eJ
  obtain ⟨j, rfl, h1s, rfl⟩ := rng1 eJ ((evs_len es he).trans hl)
  cases r1 with
  | cons ra t =>
    cases t
    cases int_rep ra
    exact ⟨j, rfl, (small62_ok h1s).1, (small62_ok h1s).2, q G1 H1 _ h1 yl_rng⟩
theorem si_rng2 {x : Str} {p : Pos} (hx : x = "range") (hg : Gl X x) (hm : X.mg x = none) (hs : notStar pa = true) (hs2 : notStar pb = true) (hl : es.len = 2) (ha : SA X W [pa, pb] (evs es)) : SI X W tg (.Call (.Name x p) [pa, pb] [] pos) (evI (.rng es)) := by
  subst hx
  have st2 := star_cons (pes := []) (env := X.env) hs2
  have st : starEach [pa, pb] X.env = [(false, eval pa X.env), (false, eval pb X.env)] := by rw [star_cons hs, st2]; rfl
  refine ⟨fun pins s σ H R I ⟨G, ρ, μ, rel, o⟩ => (pi_range2 (tg := tg) hg hm ha st st2).run pins s σ H R I ⟨G, ρ, μ, rel, (Out.bind o).baseE rel.here fun ds μ1 he o1 G1 H1 vs fp h1 r1 n1 b1 => ?_⟩⟩
  obtain ⟨J, eJ, q⟩ := o1.ofO
  simp only [Option.map_eq_some_iff] at eJ
  obtain ⟨xs, eJ, rfl⟩ := eJ
  obtain ⟨i, j, rfl, h1s, h2s, rfl⟩ := rng2 eJ ((evs_len es he).trans hl)
  cases r1 with
  | cons ra t =>
    cases t with
    | cons rb t =>
      cases t
      cases int_rep ra
      cases int_rep rb
      exact ⟨i, j, rfl, ⟨(small62_ok h1s).1, (small62_ok h1s).2, (small62_ok h2s).1, (small62_ok h2s).2⟩, q G1 H1 _ h1 yl_rng⟩
theorem si_rng3 {x : Str} {p : Pos} (hx : x = "range") (hg : Gl X x) (hm : X.mg x = none) (hs : notStar pa = true) (hs2 : notStar pb = true) (hs3 : notStar pc = true) (hl : es.len = 3) (ha : SA X W [pa, pb, pc] (evs es)) : SI X W tg (.Call (.Name x p) [pa, pb, pc] [] pos) (evI (.rng es)) := by
  subst hx
  refine ⟨fun pins s σ H R I ⟨G, ρ, μ, rel, o⟩ => (pi_range3 (tg := tg) hg hm ha (star_cons hs) (star_plain (by rw [List.all_cons, List.all_cons, hs2, hs3]; rfl))).run pins s σ H R I ⟨G, ρ, μ, rel, (Out.bind o).baseE rel.here fun ds μ1 he o1 G1 H1 vs fp h1 r1 n1 b1 => ?_⟩⟩
  obtain ⟨J, eJ, q⟩ := o1.ofO
  simp only [Option.map_eq_some_iff] at eJ
  obtain ⟨xs, eJ, rfl⟩ := eJ
  obtain ⟨i, j, c, n, rfl, hn, rfl⟩ := rng3 eJ ((evs_len es he).trans hl)
  cases r1 with
  | cons ra t =>
    cases t with
    | cons rb t =>
      cases t with
      | cons rc t =>
        cases t
        cases int_rep ra
        cases int_rep rb
        cases int_rep rc
        exact ⟨i, j, c, n, rfl, hn, q G1 H1 _ h1 yl_rngC⟩
theorem si_enm {x : Str} {p tpos : Pos} {elts : List Expr} {kk : Nat} (hx : x = "enumerate") (hg : Gl X x) (hm : X.mg x = none) (hs : notStar pa = true) (ha : SE X W pa (ev a).e) : SI X W (.Tuple elts kk tpos) (.Call (.Name x p) [pa] [] pos) (evI (.enm a)) := by
  subst hx
  have hA : SA X W [pa] (evs (.cons a .nil)) := s_cons hs ha s_nil
  refine ⟨fun pins s σ H R I ⟨G, ρ, μ, rel, o⟩ => (pi_enum (tpos := tpos) (elts := elts) (kk := kk) hg hm hA (star_cons hs)).run pins s σ H R I ⟨G, ρ, μ, rel, ?_⟩⟩
  simp only [evI] at o
  simp only [evs]
  cases hd : (ev a).e ρ μ with
  | bad => rw [hd] at o; exact o.elim
  | exc c m => rw [hd] at o; exact o
  | ok d μ1 =>
    rw [hd] at o
    simp only [Res.bind_ok] at o ⊢
    obtain ⟨J, eJ, q⟩ := o.ofO
    simp only [Option.map_eq_some_iff] at eJ
    obtain ⟨J, eJ, rfl⟩ := eJ
    intro G1 H1 vs fp h1 r1 n1 b1
    obtain ⟨v, d', rfl, e', r⟩ := one_rep r1 rfl
    cases e'
    obtain ⟨G', t, us, h', rfl, hq, ls, _, _⟩ := listItems_at h1 r b1 eJ
    exact ⟨t, us, rfl, hq, q G' H1 _ h' (yl_enum ls)⟩
theorem si_zip {x : Str} {p tpos : Pos} {elts : List Expr} {kk : Nat} (hx : x = "zip") (hg : Gl X x) (hm : X.mg x = none) (hs : notStar pa = true) (hs2 : notStar pb = true) (ha : SE X W pa (ev a).e) (hb : SE X W pb (ev b).e) : SI X W (.Tuple elts kk tpos) (.Call (.Name x p) [pa, pb] [] pos) (evI (.zip a b)) := by
  subst hx
  have hA : SA X W [pa, pb] (evs (.cons a (.cons b .nil))) := s_cons hs ha (s_cons hs2 hb s_nil)
  refine ⟨fun pins s σ H R I ⟨G, ρ, μ, rel, o⟩ => (pi_zip (tpos := tpos) (elts := elts) (kk := kk) hg hm hA (star_cons hs) (star_plain (by rw [List.all_cons, hs2]; rfl))).run pins s σ H R I ⟨G, ρ, μ, rel, ?_⟩⟩
  simp only [evI] at o
  simp only [evs]
  cases hd : (ev a).e ρ μ with
  | bad => rw [hd] at o; exact o.elim
  | exc c m => rw [hd] at o; exact o
  | ok d μ1 =>
    rw [hd] at o
    simp only [Res.bind_ok] at o ⊢
    cases hd2 : (ev b).e ρ μ1 with
    | bad => rw [hd2] at o; exact o.elim
    | exc c m => rw [hd2] at o; exact o
    | ok d2 μ2 =>
      rw [hd2] at o
      simp only [Res.bind_ok] at o ⊢
      split at o
      · rename_i J J' eJ eJ'
        intro G1 H1 vs fp h1 r1 n1 b1
        obtain ⟨G', h', r', _⟩ := h1.settleL r1 b1
        obtain ⟨va, e1, ra⟩ := r'.get0 (i := 0) (d := frz d) rfl
        obtain ⟨vb, e2, rb⟩ := r'.get0 (i := 1) (d := frz d2) rfl
        have hl := r'.length
        obtain ⟨ta, us, rfl, hq, ls⟩ := listItems0 h' ra (by rw [listItems_frz]; exact eJ)
        obtain ⟨tb, us', rfl, hq', ls'⟩ := listItems0 h' rb (by rw [listItems_frz]; exact eJ')
        have ev : vs = [.ref ta, .ref tb] := by
          match vs, hl, e1, e2 with
          | [x, y], _, e1, e2 => cases e1; cases e2; rfl
        exact ⟨ta, tb, us, us', ev, hq, hq', o G' H1 _ h' (yl_zip ls ls')⟩
      · exact o.elim
end
end Pyf

/-! Pyf, part M: targets; comprehensions. -/
namespace Pyf
open PySem PySem.Spec PyProof.Rows L2
open PySem (Str)

mutual
theorem Rep.upd {K : PySem.W.Frag} {F H : Hp} {as : List Addr} {p : Addr} {o : HO} : ∀ {d : D} {v : V} {fp : List Addr}, Rep K F H as v d fp → p ∉ fp → Rep K F (L2.upd H p o) as v d fp
  | _, _, _, .non, _ => .non
  | _, _, _, .bl b, _ => .bl b
  | _, _, _, .int i, _ => .int i
  | _, _, _, .str s, _ => .str s
  | _, _, _, .scr ns h, _ => .scr ns h
  | _, _, _, .lst h r, _ => .lst h (RepL.upd r (by simp))
  | _, _, _, .tup h r, hp => .tup h (RepL.upd r hp)
  | _, _, _, .ptr h, _ => .ptr h
  | _, _, _, .new hf ha h r, hp => by
    simp only [List.mem_cons, not_or] at hp
    exact .new hf ha (by rw [upd_ne (fun e => hp.1 e.symm)]; exact h) (RepL.upd r hp.2)
  | _, _, _, .ntup hf ha h r, hp => by
    simp only [List.mem_cons, not_or] at hp
    exact .ntup hf ha (by rw [upd_ne (fun e => hp.1 e.symm)]; exact h) (RepL.upd r hp.2)
theorem RepL.upd {K : PySem.W.Frag} {F H : Hp} {as : List Addr} {p : Addr} {o : HO} : ∀ {ds : List D} {vs : List V} {fp : List Addr}, RepL K F H as vs ds fp → p ∉ fp → RepL K F (L2.upd H p o) as vs ds fp
  | _, _, _, .nil, _ => .nil
  | _, _, _, .cons r t, hp => by
    simp only [List.mem_append, not_or] at hp
    exact .cons (Rep.upd r hp.1) (RepL.upd t hp.2)
end
mutual
theorem frz_frz : ∀ d : D, frz (frz d) = frz d
  | .tup xs => by simp only [frz]; rw [frzL_frzL xs]
  | .new xs => by simp only [frz]
  | .non | .bl _ | .int _ | .str _ | .lst _ | .scr _ | .ptr _ => rfl
theorem frzL_frzL : ∀ ds : List D, frzL (frzL ds) = frzL ds
  | [] => rfl
  | d :: ds => by simp only [frzL]; rw [frz_frz d, frzL_frzL ds]
end
/-- an object held alone is changed -/
theorem Here.alone {K : PySem.W.Frag} {G0 G : Gh} {H0 H : Hp} {μ : Store} {p : Addr} {o : HO} (h : Here K G0 H0 G μ H) (h0 : H0 p = none) (hF : G.F p = none) (hA : p ∉ G.as) : Here K G0 H0 G μ (upd H p o) := by
  refine ⟨⟨h.ext.f, h.ext.as, fun b ob hb hn => ?_, h.ext.nf, fun b ob hb => ?_⟩, ⟨fun b ob hb => ?_, h.cells.len, h.cells.nd, fun a ha => ?_, fun k a ds h1 h2 => ?_⟩⟩
  · rw [upd_ne (ne_of_none hb h0)]; exact h.ext.fr b ob hb hn
  · obtain ⟨o', e⟩ := h.ext.tr b ob hb
    exact ⟨o', by rw [upd_ne (ne_of_none hb h0)]; exact e⟩
  · rw [upd_ne (ne_of_none hb hF)]; exact h.cells.same _ _ hb
  · obtain ⟨ob, e⟩ := h.cells.there a ha
    exact ⟨ob, by rw [upd_ne (fun z => hA (by rw [← z]; exact ha))]; exact e⟩
  · obtain ⟨hf, vs, hv, r⟩ := h.cells.lst k a ds h1 h2
    exact ⟨hf, vs, by rw [upd_ne (fun z => hA (by rw [← z]; exact List.mem_of_getElem? h1))]; exact hv, r.upd (by simp)⟩

/-! ### targets -/
def Tn.ix : Tn → List Nat
  | .nm i => [i]
  | .tp is => is
theorem Rel.put {K : PySem.W.Frag} {G : Gh} {ρ : Slots} {μ : Store} {σ : L2.St} {H : Hp} {i : Nat} {v : V} {d : D} (r : Rel K G ρ μ σ H) (hr : Rep K G.F H G.as v d []) : Rel K G (ρ.set i (some d)) μ (σ.set i (some v)) H :=
  ⟨r.cells, by rw [List.length_set, List.length_set]; exact r.len, fun j e h => by
    by_cases hij : i = j
    · subst hij
      have hlt : i < ρ.length := by have := (List.getElem?_eq_some_iff.mp h).1; simpa using this
      rw [List.getElem?_set_self hlt] at h
      cases h
      exact ⟨v, List.getElem?_set_self (by rw [← r.len]; exact hlt), hr⟩
    · rw [List.getElem?_set_ne hij] at h
      rw [List.getElem?_set_ne hij]
      exact r.env j e h⟩
def TGv (K : PySem.W.Frag) (t : Tn) : TG := fun v σ H Q => ∃ (G : Gh) (ρ : Slots) (μ : Store) (d : D) (ρ' : Slots), Rel K G ρ μ σ H ∧ Rep K G.F H G.as v d [] ∧ bindT t d ρ = some ρ' ∧
  ∀ σ' : L2.St, Rel K G ρ' μ σ' H → σ'.length = σ.length → (∀ j, j ∉ t.ix → σ'[j]? = σ[j]?) → Q σ' H
def TGvs (K : PySem.W.Frag) (is : List Nat) : TGs := fun vs σ H Q => ∃ (G : Gh) (ρ : Slots) (μ : Store) (ds : List D) (ρ' : Slots), Rel K G ρ μ σ H ∧ RepL K G.F H G.as vs ds [] ∧ bindAll is ds ρ = some ρ' ∧
  ∀ σ' : L2.St, Rel K G ρ' μ σ' H → σ'.length = σ.length → (∀ j, j ∉ is → σ'[j]? = σ[j]?) → Q σ' H
theorem PG.weak {X : Cx} {e : Expr} {t t' : TG} (h : PG X e t) (w : ∀ v σ H Q, t' v σ H Q → t v σ H Q) : PG X e t' := ⟨fun pins s σ H v u Q I r hq => h.run pins s σ H v u Q I r (w v σ H Q hq)⟩
theorem PGs.weak {X : Cx} {e : List Expr} {t t' : TGs} (h : PGs X e t) (w : ∀ v σ H Q, t' v σ H Q → t v σ H Q) : PGs X e t' := ⟨fun pins s σ H v u Q I r hq => h.run pins s σ H v u Q I r (w v σ H Q hq)⟩
section
variable {X : Cx} {pos : Pos}
theorem g_nm {i : Nat} {x : Str} (hN : X.N.Nodup) (hi : X.N[i]? = some x) (hx : Loc X.env.scope x) (hf : X.fn x = true ∨ X.env.scope.names.lookup x = some .local) : PG X (.Name x pos) (TGv X.K (.nm i)) :=
  PG.weak (pg_name hN hi hx hf) fun v σ H Q ⟨G, ρ, μ, d, ρ', rel, r, e, q⟩ => by
    simp only [bindT] at e
    split at e
    · cases e
      refine q _ ?_ (List.length_set ..) fun j hj => List.getElem?_set_ne (fun e => hj (by simp [Tn.ix, e]))
      rw [r.frz_eq rfl]
      exact rel.put r
    · cases e
theorem gs_nil : PGs X [] (TGvs X.K []) := PGs.weak pgs_nil fun vs σ H Q ⟨G, ρ, μ, ds, ρ', rel, r, e, q⟩ => by
  cases ds with
  | nil =>
    have hl := r.length
    cases vs with
    | nil => cases e; exact ⟨rfl, q σ rel rfl fun _ _ => rfl⟩
    | cons _ _ => cases hl
  | cons _ _ => cases e
theorem gs_cons {i : Nat} {is : List Nat} {pe : Expr} {pes : List Expr} (h1 : PG X pe (TGv X.K (.nm i))) (h2 : PGs X pes (TGvs X.K is))
    (hs : (assignEach (pe :: pes) X.env).map (·.2) = assign pe X.env :: (assignEach pes X.env).map (·.2)) : PGs X (pe :: pes) (TGvs X.K (i :: is)) :=
  PGs.weak (pgs_cons h1 h2 hs) fun vs σ H Q ⟨G, ρ, μ, ds, ρ', rel, r, e, q⟩ => by
    cases ds with
    | nil => cases e
    | cons d ds =>
      have hl := r.length
      cases vs with
      | nil => cases hl
      | cons v vs =>
        obtain ⟨ra, rb⟩ := RepL.nil_of r
        simp only [bindAll] at e
        split at e
        · rename_i hi
          refine ⟨v, vs, rfl, G, ρ, μ, d, ρ.set i (some (frz d)), rel, ra, by simp only [bindT]; rw [if_pos hi], fun σ1 rel1 hl1 f1 => ?_⟩
          exact ⟨G, _, μ, ds, ρ', rel1, rb, e, fun σ2 rel2 hl2 f2 => q σ2 rel2 (hl2.trans hl1) fun j hj => by
            simp only [List.mem_cons, not_or] at hj
            rw [f2 j hj.2, f1 j (by simp [Tn.ix, hj.1])]⟩
        · cases e
theorem bindAll_len : ∀ {is : List Nat} {ds : List D} {ρ ρ' : Slots}, bindAll is ds ρ = some ρ' → is.length = ds.length
  | [], [], _, _, _ => rfl
  | [], _ :: _, _, _, e => by cases e
  | _ :: _, [], _, _, e => by cases e
  | i :: is, d :: ds, ρ, ρ', e => by
    simp only [bindAll] at e
    split at e
    · simp only [List.length_cons, bindAll_len e]
    · cases e
theorem g_tp {is : List Nat} {pes : List Expr} {k : Nat} (hc : X.calm = true) (h : PGs X pes (TGvs X.K is)) (hn : (assignEach pes X.env).length = is.length) (hst : (assignEach pes X.env).findIdx? (·.1) = none) : PG X (.Tuple pes k pos) (TGv X.K (.tp is)) :=
  PG.weak (pg_tup (n := is.length) hc h hn hst) fun v σ H Q ⟨G, ρ, μ, d, ρ', rel, r, e, q⟩ => by
    cases d with
    | tup ds =>
      obtain ⟨a, vs, rfl, hF, rr⟩ := r.fp_tup
      exact ⟨a, vs, rfl, SqT.of (rel.cells.same _ _ hF), by rw [rr.length, bindAll_len (show bindAll is ds ρ = some ρ' from e)], G, ρ, μ, ds, ρ', rel, rr, e, q⟩
    | _ => cases e
theorem bindAll_agree : ∀ {is : List Nat} {ds : List D} {ρ1 ρ2 : Slots}, ρ1.length = ρ2.length → (∀ j, j ∉ is → ρ1[j]? = ρ2[j]?) → bindAll is ds ρ1 = bindAll is ds ρ2
  | [], [], ρ1, ρ2, hl, h => by
    simp only [bindAll]
    rw [List.ext_getElem? fun j => h j (by simp)]
  | [], _ :: _, _, _, _, _ => rfl
  | _ :: _, [], _, _, _, _ => rfl
  | i :: is, d :: ds, ρ1, ρ2, hl, h => by
    simp only [bindAll]
    rw [hl]
    split
    · refine bindAll_agree (by rw [List.length_set, List.length_set]; exact hl) fun j hj => ?_
      by_cases hij : i = j
      · subst hij
        by_cases hlt : i < ρ1.length
        · rw [List.getElem?_set_self hlt, List.getElem?_set_self (by omega)]
        · rw [List.getElem?_eq_none (by rw [List.length_set]; omega), List.getElem?_eq_none (by rw [List.length_set]; omega)]
      · rw [List.getElem?_set_ne hij, List.getElem?_set_ne hij]
        exact h j (by simp only [List.mem_cons, not_or]; exact ⟨fun e => hij e.symm, hj⟩)
    · rfl
theorem bindT_agree {t : Tn} {d : D} {ρ1 ρ2 : Slots} (hl : ρ1.length = ρ2.length) (h : ∀ j, j ∉ t.ix → ρ1[j]? = ρ2[j]?) : bindT t d ρ1 = bindT t d ρ2 := by
  cases t with
  | nm i => simpa [bindAll, bindT] using bindAll_agree (is := [i]) (ds := [d]) hl h
  | tp is =>
    cases d with
    | tup ds => exact bindAll_agree hl h
    | _ => rfl
def wipeR (ρ : Slots) : List Nat → Slots
  | [] => ρ
  | v :: vs => (wipeR ρ vs).set v none
theorem wipeR_length (ρ : Slots) : ∀ vs : List Nat, (wipeR ρ vs).length = ρ.length
  | [] => rfl
  | v :: vs => by unfold wipeR; rw [List.length_set, wipeR_length ρ vs]
theorem wipeR_off {ρ : Slots} {j : Nat} : ∀ {vs : List Nat}, j ∉ vs → (wipeR ρ vs)[j]? = ρ[j]?
  | [], _ => rfl
  | v :: vs, h => by
    simp only [List.mem_cons, not_or] at h
    unfold wipeR
    rw [List.getElem?_set_ne (fun e => h.1 e.symm), wipeR_off h.2]
theorem wipe_off {ρ : L2.St} {j : Nat} : ∀ {vs : List Nat}, j ∉ vs → (wipe ρ vs)[j]? = ρ[j]?
  | [], _ => rfl
  | v :: vs, h => by
    simp only [List.mem_cons, not_or] at h
    unfold wipe
    rw [List.getElem?_set_ne (fun e => h.1 e.symm), wipe_off h.2]
theorem wipeR_in {ρ : Slots} {j : Nat} {d : D} : ∀ {vs : List Nat}, (wipeR ρ vs)[j]? = some (some d) → j ∉ vs
  | [], _ => by simp
  | v :: vs, h => by
    unfold wipeR at h
    by_cases hv : v = j
    · subst hv
      by_cases hl : v < (wipeR ρ vs).length
      · rw [List.getElem?_set_self hl] at h; cases h
      · rw [List.getElem?_eq_none (by rw [List.length_set]; omega)] at h; cases h
    · rw [List.getElem?_set_ne hv] at h
      simp only [List.mem_cons, not_or]
      exact ⟨fun e => hv e.symm, wipeR_in h⟩
theorem wipe_at {ρ : L2.St} {j : Nat} : ∀ {vs : List Nat}, j ∈ vs → (wipe ρ vs)[j]? = if j < ρ.length then some none else none
  | v :: vs, h => by
    unfold wipe
    by_cases hv : v = j
    · subst hv
      by_cases hl : v < ρ.length
      · rw [if_pos hl, List.getElem?_set_self (by rw [wipe_length]; exact hl)]
      · rw [if_neg hl, List.getElem?_eq_none (by rw [List.length_set, wipe_length]; omega)]
    · rw [List.getElem?_set_ne hv]
      rcases List.mem_cons.mp h with e | h
      · exact absurd e.symm hv
      · exact wipe_at h
theorem wipe_eq {σ σ2 : L2.St} {vs : List Nat} (hl : σ2.length = σ.length) (h : ∀ j, j ∉ vs → σ2[j]? = σ[j]?) : wipe σ2 vs = wipe σ vs := by
  refine List.ext_getElem? fun j => ?_
  by_cases hj : j ∈ vs
  · rw [wipe_at hj, wipe_at hj, hl]
  · rw [wipe_off hj, wipe_off hj, h j hj]
theorem Rel.wiped {K : PySem.W.Frag} {G : Gh} {ρ : Slots} {μ : Store} {σ : L2.St} {H : Hp} (r : Rel K G ρ μ σ H) (vs : List Nat) : Rel K G (wipeR ρ vs) μ (wipe σ vs) H :=
  ⟨r.cells, by rw [wipeR_length, wipe_length]; exact r.len, fun j d h => by
    have hj := wipeR_in h
    rw [wipeR_off hj] at h
    rw [wipe_off hj]
    exact r.env j d h⟩
end

/-! ### comprehensions -/
def noW : WX := fun _ _ _ _ => False
theorem OutOk {K : PySem.W.Frag} {mg : Str → Option Value} {G0 : Gh} {H0 : Hp} {W : XK} {α : Type} {P : α → Store → Prop} {r : Res α} {a : α} {μ : Store} (e : r = .ok a μ) (h : P a μ) : Out K mg G0 H0 W P r := by rw [e]; exact h
section
variable {X : Cx} {W : WX} {pos : Pos}
theorem lc_read {elt : E} {cs : Es} {it : I} {tn : Tn} {vs : List Nat} (hv : vs = tn.ix) (σ : L2.St) (H : Hp) (Q : VK) (h : TEv X.K X.mg W (ev (.lc elt tn it cs)).e σ H Q) :
    tLc (TIv X.K X.mg W (evI it)) (TGv X.K tn) (TTv X.K X.mg noW (evTs cs)) (TEv X.K X.mg noW (ev elt).e) vs σ H Q := by
  subst hv
  obtain ⟨G, ρ, μ, rel, o⟩ := h
  refine ⟨G, ρ, μ, rel, (Out.bind o).mono fun J μ1 o1 G1 H1 j h1 yl => ?_⟩
  intro T hD
  clear o
  generalize hr : lcS tn (evTs cs) (ev elt).e J.lv ρ J.ds [] μ1 = r0 at o1
  refine ⟨fun i m H2 => ∃ (G2 : Gh) (μ2 : Store) (acc : List D) (fp : List Addr), m = J.ds.length - i ∧ i ≤ J.ds.length ∧ Here X.K G1 H1 G2 μ2 H2 ∧ Rep X.K G2.F H2 G2.as (.ref T) (.new acc) fp ∧ fp.Nodup ∧ (∀ a ∈ fp, H1 a = none) ∧ lcS tn (evTs cs) (ev elt).e J.lv ρ (J.ds.drop i) acc μ2 = r0, ⟨J.ds.length, G1, μ1, [], [T], by simp, Nat.zero_le _, (Here.start h1.cells).new hD, .new (h1.cells.none hD) (h1.cells.nin hD) upd_same .nil, by simp, by simpa using hD, by simpa using hr⟩, ?_⟩
  rintro i m H2 ⟨G2, μ2, acc, fp, rfl, hi, h2, r2, n2, b2, e2⟩
  have rel2 := rel.go (h1.go h2)
  by_cases hlt : i < J.ds.length
  · right
    have hd : J.ds.drop i = J.ds[i] :: J.ds.drop (i + 1) := (List.drop_eq_getElem_cons hlt)
    rw [hd] at e2
    generalize hx : J.ds[i] = d at e2
    have hxi : J.ds[i]? = some d := by rw [List.getElem?_eq_getElem hlt, hx]
    simp only [lcS] at e2
    split at e2
    rotate_left
    · subst e2; exact o1.elim
    rename_i lv
    obtain ⟨y1, _, y3⟩ := yl i G2 μ2 H2 h2 lv
    refine ⟨y1 hlt, fun H' => ∃ (G3 : Gh) (μ3 : Store) (acc : List D) (fp : List Addr), Here X.K G1 H1 G3 μ3 H' ∧ Rep X.K G3.F H' G3.as (.ref T) (.new acc) fp ∧ fp.Nodup ∧ (∀ a ∈ fp, H1 a = none) ∧ lcS tn (evTs cs) (ev elt).e J.lv ρ (J.ds.drop (i + 1)) acc μ3 = r0, fun H' ⟨G3, μ3, acc, fp, q1, q2, q3, q4, q5⟩ => ⟨J.ds.length - (i + 1), by omega, G3, μ3, acc, fp, rfl, hlt, q1, q2, q3, q4, q5⟩, ?_⟩
    intro x H' hy
    obtain ⟨fx, hh, rx, nx, bx⟩ := y3 d hxi x H' hy
    split at e2
    · subst e2; exact o1.elim
    rename_i ρ' hb
    -- the item is settled
    obtain ⟨G3, h3, r3, _⟩ := hh.settle rx bx
    have rel3 := (rel2.go h3).wiped tn.ix
    have hb' : bindT tn (frz d) (wipeR ρ tn.ix) = some ρ' := by
      rw [← hb, bindT_agree (ρ1 := wipeR ρ tn.ix) (ρ2 := ρ) (wipeR_length _ _) fun j hj => wipeR_off hj]
      cases tn with
      | nm i => simp only [bindT]; rw [r3.frz_eq rfl]
      | tp is =>
        cases d with
        | tup ds =>
          simp only [frz, bindT] at r3 ⊢
          have : ∀ (is : List Nat) (ds : List Pyf.D) (ρ : Slots), bindAll is (frzL ds) ρ = bindAll is ds ρ := fun is => by
            induction is with
            | nil => intro ds ρ; cases ds <;> rfl
            | cons i is ih =>
              intro ds ρ
              cases ds with
              | nil => rfl
              | cons d ds => simp only [frzL, bindAll, ih]; rw [frz_frz]
          exact this is ds ρ
        | _ => rfl
    refine ⟨G3, _, μ2, frz d, ρ', rel3, r3, hb', fun σ' rel' hl' hoff => ⟨?_, ?_⟩⟩
    · refine wipe_eq (hl'.trans (wipe_length _ _)) fun j hj => ?_
      rw [hoff j hj, wipe_off hj]
    · have rD := r2.mono h3.ext
      cases ht : evTs cs ρ' μ2 with
      | bad => rw [ht] at e2; subst e2; exact o1.elim
      | exc c m => rw [ht] at e2; subst e2; exact o1.elim
      | ok b μ3 =>
        rw [ht] at e2
        refine ⟨G3, ρ', μ2, rel', OutOk ht fun G4 H4 h4 => ?_⟩
        have h24 := (h2.go h3).go h4
        have rD4 := rD.mono h4.ext
        cases b with
        | false => exact ⟨G4, μ3, acc, fp, h24, rD4, n2, b2, e2⟩
        | true =>
          simp only [if_true]
          simp only at e2
          cases he : (ev elt).e ρ' μ3 with
          | bad => rw [he] at e2; subst e2; exact o1.elim
          | exc c m => rw [he] at e2; subst e2; exact o1.elim
          | ok y μ4 =>
            rw [he] at e2
            simp only at e2
            split at e2
            rotate_left
            · subst e2; exact o1.elim
            rename_i hsz
            refine ⟨G4, ρ', μ3, rel'.go h4, OutOk he fun G5 H5 yv fy h5 ry ny byy => ?_⟩
            have h25 := h24.go h5
            have rD5 := rD4.mono h5.ext
            cases rD5 with
            | new hF hA hH rl =>
              rename_i vs fps
              refine ⟨vs, hH, by rw [rl.length]; exact hsz, G5, μ4, acc ++ [y], T :: (fps ++ fy), h25.alone (b2 _ List.mem_cons_self) hF hA, ?_, ?_, ?_, e2⟩
              · have hDf : T ∉ fps := (List.nodup_cons.mp n2).1
                have hDy : T ∉ fy := fun z => by
                  have := byy T z
                  cases rD4 with
                  | new _ _ hH4 _ => rw [hH4] at this; cases this
                refine .new hF hA upd_same ((rl.upd hDf).append ?_)
                have := RepL.cons (ry.upd (o := .lst (vs ++ [yv])) hDy) (.nil (K := X.K) (F := G5.F) (H := upd H5 T (.lst (vs ++ [yv]))) (as := G5.as))
                rwa [List.append_nil] at this
              · have hDf := List.nodup_cons.mp n2
                have hDy : T ∉ fy := fun z => by
                  have := byy T z
                  cases rD4 with
                  | new _ _ hH4 _ => rw [hH4] at this; cases this
                have fresh : ∀ a ∈ fps, ∃ o, H4 a = some o := fun a ha => (rD4.out a (List.mem_cons_of_mem _ ha)).2.2
                refine List.nodup_cons.mpr ⟨fun z => (List.mem_append.mp z).elim hDf.1 hDy, List.nodup_append.mpr ⟨hDf.2, ny, fun a ha b hb e => ?_⟩⟩
                subst e
                obtain ⟨o, z⟩ := fresh a ha
                rw [byy a hb] at z; cases z
              · intro a ha
                rcases List.mem_cons.mp ha with rfl | ha
                · exact b2 _ List.mem_cons_self
                · rcases List.mem_append.mp ha with ha | ha
                  · exact b2 a (List.mem_cons_of_mem _ ha)
                  · exact h24.ext.none (byy a ha)
  · left
    have e : i = J.ds.length := by omega
    subst e
    rw [List.drop_length] at e2
    simp only [lcS] at e2
    split at e2
    rotate_left
    · subst e2; exact o1.elim
    rename_i lv
    subst e2
    exact ⟨(yl J.ds.length G2 μ2 H2 h2 lv).2.1 (Nat.le_refl _), o1 G2 H2 _ fp (h1.go h2) r2 n2 fun a ha => h1.ext.none (b2 a ha)⟩
theorem ts_nil {X : Cx} {W : WX} : PTs X [] (TTv X.K X.mg W (evTs .nil)) := ⟨fun pins s σ H Q I ⟨G, ρ, μ, rel, o⟩ => pts_nil.run pins s σ H Q I (o G H rel.here)⟩
theorem ts_one {X : Cx} {W : WX} {pe : Expr} {e : E} (h : ST X W pe (ev e).t) : PTs X [pe] (TTv X.K X.mg W (evTs (.cons e .nil))) := pts_one h
end
/-! ### values laid down -/
def mdOk : Md → Bool := fun _ => true
/-- what laying down does beside: fp is settled, nothing else -/
structure Lay (G G' : Gh) (fp : List Addr) : Prop where
  f : Same G.F G'.F
  as : ∃ l, G'.as = G.as ++ l ∧ ∀ b ∈ l, b ∈ fp
  off : ∀ b, b ∉ fp → G.F b = none → G'.F b = none
section
variable {K : PySem.W.Frag} {G0 G : Gh} {H0 H : Hp} {μ μ' : Store} {d y : D} {v : V} {fp : List Addr}
theorem Lay.get {G G' : Gh} {fp : List Addr} (l : Lay G G' fp) (k : Nat) (a : Addr) (h : G.as[k]? = some a) : G'.as[k]? = some a := by
  obtain ⟨l, e, _⟩ := l.as
  rw [e]; exact get_append h
theorem Rel.lay {G' : Gh} {ρ : Slots} {σ : L2.St} (r : Rel K G ρ μ σ H) (l : Lay G G' fp) (c : Cells K G' μ' H) : Rel K G' ρ μ' σ H :=
  ⟨c, r.len, fun i d h => let ⟨v, h1, h2⟩ := r.env i d h; ⟨v, h1, h2.set l.f l.get rfl⟩⟩
theorem RepL.lay {G' : Gh} {vs : List V} {ds : List D} {fq : List Addr} (r : RepL K G.F H G.as vs ds fq) (l : Lay G G' fp) (dj : ∀ b ∈ fq, b ∉ fp) : RepL K G'.F H G'.as vs ds fq :=
  r.off l.f l.get fun b hb => ⟨l.off b (dj b hb) (r.out b hb).1, fun z => by
    obtain ⟨m, e, hm⟩ := l.as
    rw [e] at z
    rcases List.mem_append.mp z with z | z
    · exact (r.out b hb).2.1 z
    · exact dj b hb (hm b z)⟩
theorem Here.cellNew {a : Addr} {vs : List V} {ds : List D} {fs : List Addr} (h : Here K G0 H0 G μ H) (hF : G.F a = none) (hA : a ∉ G.as) (hH : H a = some (.lst vs)) (r : RepL K G.F H G.as vs ds fs) (n : (a :: fs).Nodup) (hB : ∀ b ∈ a :: fs, H0 b = none) :
    ∃ G', Here K G0 H0 G' (μ ++ [.lst (frzL ds)]) H ∧ Rep K G'.F H G'.as (.ref a) (.ptr μ.length) [] ∧ Lay G G' (a :: fs) := by
  have hS : ∀ b ∈ fs, G.F b = none ∧ b ∉ G.as ∧ H0 b = none := fun b z => ⟨(r.out b z).1, (r.out b z).2.1, hB b (List.mem_cons_of_mem _ z)⟩
  have h1 := h.froz hS
  have r1 := RepL.frz (fun b z => (hS b z).1) r fun b z => z
  have hna : a ∉ fs := (List.nodup_cons.mp n).1
  have hFa : Pyf.froz G.F H fs a = none := by rw [froz_out hna]; exact hF
  refine ⟨⟨Pyf.froz G.F H fs, G.as ++ [a]⟩, ⟨⟨h1.ext.f, ?_, h1.ext.fr, ?_, h1.ext.tr⟩, ⟨h1.cells.same, ?_, ?_, ?_, ?_⟩⟩, .ptr ?_, froz_same fun b z => (hS b z).1, ⟨[a], rfl, by simp⟩, fun b hb hf => by
    simp only [List.mem_cons, not_or] at hb
    show Pyf.froz G.F H fs b = none
    rw [froz_out hb.2]; exact hf⟩
  · obtain ⟨l, e, hl⟩ := h1.ext.as
    refine ⟨l ++ [a], by show G.as ++ [a] = _; rw [show G.as = G0.as ++ l from e, List.append_assoc], fun b hb => ?_⟩
    rcases List.mem_append.mp hb with hb | hb
    · exact hl b hb
    · rw [List.mem_singleton] at hb; subst hb; exact hB _ List.mem_cons_self
  · exact h1.ext.nf
  · show (G.as ++ [a]).length = (μ ++ [Cell.lst (frzL ds)]).length
    rw [List.length_append, List.length_append, h.cells.len]; rfl
  · refine List.nodup_append.mpr ⟨h.cells.nd, by simp, fun b hb c hc e => ?_⟩
    rw [List.mem_singleton] at hc; subst hc; subst e; exact hA hb
  · intro b hb
    rcases List.mem_append.mp hb with hb | hb
    · exact h.cells.there b hb
    · rw [List.mem_singleton] at hb; subst hb; exact ⟨_, hH⟩
  · intro k b es hk hc
    have ext : ∀ (k : Nat) (b : Addr), G.as[k]? = some b → (G.as ++ [a])[k]? = some b := fun k b z => get_append z
    by_cases hlt : k < μ.length
    · have hk' : G.as[k]? = some b := by rwa [List.getElem?_append_left (by rw [h.cells.len]; exact hlt)] at hk
      have hc' : μ[k]? = some (.lst es) := by rwa [List.getElem?_append_left hlt] at hc
      obtain ⟨q1, ws, q2, q3⟩ := h1.cells.lst k b es hk' hc'
      exact ⟨q1, ws, q2, q3.set (Same.refl _) ext rfl⟩
    · have hk1 : k = μ.length := by
        have := (List.getElem?_eq_some_iff.mp hc).1
        rw [List.length_append, List.length_singleton] at this
        omega
      subst hk1
      rw [List.getElem?_append_right (by rw [h.cells.len]; exact Nat.le_refl _), h.cells.len, Nat.sub_self] at hk
      rw [List.getElem?_append_right (Nat.le_refl _), Nat.sub_self] at hc
      cases hk; cases hc
      exact ⟨hFa, vs, hH, r1.set (Same.refl _) ext rfl⟩
  · show (G.as ++ [a])[μ.length]? = some a
    rw [List.getElem?_append_right (by rw [h.cells.len]; exact Nat.le_refl _), h.cells.len, Nat.sub_self]; rfl
theorem Here.settleLay (h : Here K G0 H0 G μ H) (r : Rep K G.F H G.as v d fp) (hB : ∀ a ∈ fp, H0 a = none) : ∃ G', Here K G0 H0 G' μ H ∧ Rep K G'.F H G'.as v (frz d) [] ∧ Lay G G' fp :=
  ⟨⟨Pyf.froz G.F H fp, G.as⟩, h.froz fun b z => ⟨(r.out b z).1, (r.out b z).2.1, hB b z⟩, Rep.frz (fun b z => (r.out b z).1) r fun b z => z, froz_same fun b z => (r.out b z).1, ⟨[], by simp, by simp⟩, fun b hb hf => by
    show Pyf.froz G.F H fp b = none
    rw [froz_out hb]; exact hf⟩
theorem Lay.refl (G : Gh) (fp : List Addr) : Lay G G fp := ⟨Same.refl _, ⟨[], by simp, by simp⟩, fun _ _ z => z⟩
theorem Lay.trans {G G1 G2 : Gh} {fa fb : List Addr} (l1 : Lay G G1 fa) (l2 : Lay G1 G2 fb) : Lay G G2 (fa ++ fb) := by
  obtain ⟨l, e, hl⟩ := l1.as
  obtain ⟨l', e', hl'⟩ := l2.as
  refine ⟨l1.f.trans l2.f, ⟨l ++ l', by rw [e', e, List.append_assoc], fun b hb => ?_⟩, fun b hb hf => ?_⟩
  · rcases List.mem_append.mp hb with z | z
    · exact List.mem_append_left _ (hl b z)
    · exact List.mem_append_right _ (hl' b z)
  · rw [List.mem_append, not_or] at hb
    exact l2.off b hb.2 (l1.off b hb.1 hf)
theorem Lay.notin {G G' : Gh} {fp : List Addr} (l : Lay G G' fp) {a : Addr} (ha : a ∉ fp) (h : a ∉ G.as) : a ∉ G'.as := fun z => by
  obtain ⟨m, e, hm⟩ := l.as
  rw [e] at z
  rcases List.mem_append.mp z with z | z
  · exact h z
  · exact ha (hm a z)
mutual
theorem allocT_ok : ∀ (d : D) {v : V} {fp : List Addr} {G : Gh} {μ : Store}, Here K G0 H0 G μ H → Rep K G.F H G.as v d fp → fp.Nodup → (∀ a ∈ fp, H0 a = none) → ∃ G', Here K G0 H0 G' (allocT d μ).2 H ∧ Rep K G'.F H G'.as v (allocT d μ).1 [] ∧ Lay G G' fp
  | .non, _, _, G, μ, h, r, _, _ => by cases r; exact ⟨G, h, .non, Lay.refl _ _⟩
  | .bl b, _, _, G, μ, h, r, _, _ => by cases r; exact ⟨G, h, .bl b, Lay.refl _ _⟩
  | .int i, _, _, G, μ, h, r, _, _ => by cases r; exact ⟨G, h, .int i, Lay.refl _ _⟩
  | .str s, _, _, G, μ, h, r, _, _ => by cases r; exact ⟨G, h, .str s, Lay.refl _ _⟩
  | .scr ns, _, _, G, μ, h, r, _, _ => by cases r with | scr _ q => exact ⟨G, h, .scr ns q, Lay.refl _ _⟩
  | .lst xs, _, _, G, μ, h, r, _, _ => by cases r with | lst q1 q2 => exact ⟨G, h, .lst q1 q2, Lay.refl _ _⟩
  | .ptr k, _, _, G, μ, h, r, _, _ => by cases r with | ptr q => exact ⟨G, h, .ptr q, Lay.refl _ _⟩
  | .tup xs, _, _, G, μ, h, r, n, hB => by
    cases r with
    | tup q1 q2 =>
      obtain ⟨G1, h1, r1, l1⟩ := allocL_ok xs h q2 n hB
      exact ⟨G1, h1, .tup (l1.f _ _ q1) r1, l1⟩
    | @ntup a vs _ fs q1 q2 q3 q4 =>
      have hna : a ∉ fs := (List.nodup_cons.mp n).1
      obtain ⟨G1, h1, r1, l1⟩ := allocL_ok xs h q4 (List.nodup_cons.mp n).2 fun b hb => hB b (List.mem_cons_of_mem _ hb)
      have f1 := l1.off a hna q1
      have a1 := l1.notin hna q2
      have hS : ∀ b ∈ [a], G1.F b = none ∧ b ∉ G1.as ∧ H0 b = none := fun b hb => by
        rw [List.mem_singleton] at hb; subst hb; exact ⟨f1, a1, hB _ List.mem_cons_self⟩
      have h2 := h1.froz hS
      have sm : Same G1.F (Pyf.froz G1.F H [a]) := froz_same fun b hb => (hS b hb).1
      have l2 : Lay G1 ⟨Pyf.froz G1.F H [a], G1.as⟩ [a] := ⟨sm, ⟨[], by simp, by simp⟩, fun b hb hf => by
        show Pyf.froz G1.F H [a] b = none
        rw [froz_out hb]; exact hf⟩
      refine ⟨_, h2, .tup (a := a) (vs := vs) ?_ (r1.set sm (fun _ _ z => z) rfl), ?_⟩
      · show Pyf.froz G1.F H [a] a = _
        rw [froz_in List.mem_cons_self]; exact q3
      · have l3 := l1.trans l2
        refine ⟨l3.f, ?_, fun b hb hf => l3.off b (fun z => hb ?_) hf⟩
        · obtain ⟨m, e, hm⟩ := l3.as
          refine ⟨m, e, fun b hb => ?_⟩
          rcases List.mem_append.mp (hm b hb) with z | z
          · exact List.mem_cons_of_mem _ z
          · rw [List.mem_singleton] at z; subst z; exact List.mem_cons_self
        · rcases List.mem_append.mp z with z | z
          · exact List.mem_cons_of_mem _ z
          · rw [List.mem_singleton] at z; subst z; exact List.mem_cons_self
  | .new xs, _, _, G, μ, h, r, n, hB => by
    cases r with
    | @new a vs _ fs q1 q2 q3 q4 =>
      have hna : a ∉ fs := (List.nodup_cons.mp n).1
      obtain ⟨G1, h1, r1, l1⟩ := allocL_ok xs h q4 (List.nodup_cons.mp n).2 fun b hb => hB b (List.mem_cons_of_mem _ hb)
      obtain ⟨G2, h2, r2, l2⟩ := h1.cellNew (l1.off a hna q1) (l1.notin hna q2) q3 r1 (by simp) fun b hb => by
        rw [List.mem_singleton] at hb; subst hb; exact hB _ List.mem_cons_self
      refine ⟨G2, h2, r2, ?_⟩
      have l3 := l1.trans l2
      refine ⟨l3.f, ?_, fun b hb hf => l3.off b (fun z => hb ?_) hf⟩
      · obtain ⟨m, e, hm⟩ := l3.as
        refine ⟨m, e, fun b hb => ?_⟩
        rcases List.mem_append.mp (hm b hb) with z | z
        · exact List.mem_cons_of_mem _ z
        · rw [List.mem_singleton] at z; subst z; exact List.mem_cons_self
      · rcases List.mem_append.mp z with z | z
        · exact List.mem_cons_of_mem _ z
        · rw [List.mem_singleton] at z; subst z; exact List.mem_cons_self
theorem allocL_ok : ∀ (ds : List D) {vs : List V} {fp : List Addr} {G : Gh} {μ : Store}, Here K G0 H0 G μ H → RepL K G.F H G.as vs ds fp → fp.Nodup → (∀ a ∈ fp, H0 a = none) → ∃ G', Here K G0 H0 G' (allocL ds μ).2 H ∧ RepL K G'.F H G'.as vs (allocL ds μ).1 [] ∧ Lay G G' fp
  | [], _, _, G, μ, h, r, _, _ => by cases r; exact ⟨G, h, .nil, Lay.refl _ _⟩
  | d :: ds, _, _, G, μ, h, r, n, hB => by
    cases r with
    | @cons v vs _ _ fa ft ra rt =>
      have na := (List.nodup_append.mp n).1
      have nt := (List.nodup_append.mp n).2.1
      have dj := (List.nodup_append.mp n).2.2
      obtain ⟨G1, h1, r1, l1⟩ := allocT_ok d h ra na fun b z => hB b (List.mem_append_left _ z)
      obtain ⟨G2, h2, r2, l2⟩ := allocL_ok ds h1 (rt.lay l1 fun b hb hb' => dj b hb' b hb rfl) nt fun b z => hB b (List.mem_append_right _ z)
      exact ⟨G2, h2, RepL.cons (fp := []) (fps := []) (r1.set l2.f l2.get rfl) r2, l1.trans l2⟩
end
theorem lay_ok {m : Md} (hm : mdOk m = true) (h : Here K G0 H0 G μ H) (r : Rep K G.F H G.as v d fp) (n : fp.Nodup) (hB : ∀ a ∈ fp, H0 a = none) (e : layD m d μ = .ok y μ') : ∃ G', Here K G0 H0 G' μ' H ∧ Rep K G'.F H G'.as v y [] ∧ Lay G G' fp := by
  cases m with
  | frz =>
    cases e
    exact h.settleLay r hB
  | own =>
    cases r with
    | new hF hA hH rl =>
      cases e
      exact h.cellNew hF hA hH rl n hB
    | ptr hk => cases e; exact ⟨G, h, .ptr hk, Same.refl _, ⟨[], by simp, by simp⟩, fun _ _ z => z⟩
    | _ => cases e
  | deep =>
    cases e
    exact allocT_ok d h r n hB
theorem nox_lay {m : Md} {d : D} {μ : Store} : NoX (layD m d μ) := by
  cases m with
  | frz => exact nox_ok _ _
  | own => unfold layD; (repeat' split) <;> first | exact nox_ok _ _ | exact nox_bad
  | deep => exact nox_ok _ _
/-- .. at several names, from the left -/
def putAll : List (Nat × Md) → List V → L2.St → L2.St
  | (i, _) :: ts, v :: vs, σ => putAll ts vs (σ.set i (some v))
  | _, _, σ => σ
theorem nox_layAll : ∀ {ts : List (Nat × Md)} {ds : List D} {ρ : Slots} {μ : Store}, NoX (layAll ts ds ρ μ)
  | [], [], _, _ => nox_ok _ _
  | [], _ :: _, _, _ => nox_bad
  | _ :: _, [], _, _ => nox_bad
  | (i, m) :: ts, d :: ds, ρ, μ => nox_ite (nox_bind nox_lay fun _ _ => nox_layAll) nox_bad
theorem layAll_ok : ∀ {ts : List (Nat × Md)} {ds : List D} {vs : List V} {ρ ρ' : Slots} {G : Gh} {μ μ' : Store} {σ : L2.St} {fp : List Addr}, ts.all (fun p => mdOk p.2) = true → Here K G0 H0 G μ H → Rel K G ρ μ σ H → RepL K G.F H G.as vs ds fp → fp.Nodup → (∀ a ∈ fp, H0 a = none) →
    layAll ts ds ρ μ = .ok ρ' μ' → ∃ G', Here K G0 H0 G' μ' H ∧ Rel K G' ρ' μ' (putAll ts vs σ) H ∧ ts.length = vs.length
  | [], [], vs, ρ, ρ', G, μ, μ', σ, fp, hm, h, rel, r, n, hB, e => by
    cases e
    cases vs with
    | nil => exact ⟨G, h, rel, rfl⟩
    | cons _ _ => have := r.length; simp at this
  | [], _ :: _, vs, ρ, ρ', G, μ, μ', σ, fp, hm, h, rel, r, n, hB, e => by cases e
  | _ :: _, [], vs, ρ, ρ', G, μ, μ', σ, fp, hm, h, rel, r, n, hB, e => by cases e
  | (i, m) :: ts, d :: ds, vs, ρ, ρ', G, μ, μ', σ, fp, hm, h, rel, r, n, hB, e => by
    rw [List.all_cons, Bool.and_eq_true] at hm
    simp only [layAll] at e
    split at e
    · cases r with
      | cons ra rt =>
        rename_i v vs fa ft
        have na := (List.nodup_append.mp n).1
        have nt := (List.nodup_append.mp n).2.1
        have dj := (List.nodup_append.mp n).2.2
        cases hl : layD m d μ with
        | bad => rw [hl] at e; cases e
        | exc c z => exact absurd hl (nox_lay c z)
        | ok y μ1 =>
          rw [hl] at e
          simp only [Res.bind_ok] at e
          obtain ⟨G1, h1, r1, l1⟩ := lay_ok hm.1 h ra na (fun b z => hB b (List.mem_append_left _ z)) hl
          obtain ⟨G2, h2, r2, e2⟩ := layAll_ok hm.2 h1 ((rel.lay l1 h1.cells).put r1) (rt.lay l1 fun b hb hb' => dj b hb' b hb rfl) nt (fun b z => hB b (List.mem_append_right _ z)) e
          exact ⟨G2, h2, r2, by simp [e2]⟩
    · cases e
end

theorem s_own {X : Cx} {W : WX} {pe : Expr} {e : E} (h : SE X W pe (ev e).e) : SE X W pe (ev (.own e)).e := PE.weak h fun σ H Q ⟨G, ρ, μ, rel, o⟩ => ⟨G, ρ, μ, rel, (Out.bind o).mono fun d μ1 o1 G1 H1 x fp h1 r1 n1 b1 => by
  cases hl : layD .own d μ1 with
  | bad => rw [hl] at o1; exact o1.elim
  | exc c z => exact absurd hl (nox_lay c z)
  | ok y μ2 =>
    rw [hl] at o1
    obtain ⟨G2, h2, r2, _⟩ := lay_ok (m := .own) rfl h1 r1 n1 b1 hl
    exact OkP.now o1 h2 r2⟩
end Pyf

/-! Pyf, part N: which tree is which text; expressions are read aright. -/
namespace Pyf
open PySem PySem.Spec PyProof.Rows L2
open PySem (Str)

/-- where a text stands -/
structure Ck where
  N : List Str
  sc : Scope
  fb : Str → Bool
def Ck.vis (C : Ck) (x : Str) : Bool := match C.sc.names.lookup x with
  | some .local => true | some .cell => true | some .free => true | _ => false
def Ck.gl (C : Ck) (x : Str) : Bool := match C.sc.names.lookup x with
  | some .globalImplicit => !(x == ("__debug__" : Str)) | _ => false
def Ck.loc (C : Ck) (x : Str) : Bool := match C.sc.names.lookup x with
  | some .local => true | some .cell => C.fb x | _ => false
def Ck.blk (C : Ck) (scope : Scope) : Ck := ⟨C.N, relS scope C.sc, fun x => scope.names.lookup x == some .cell⟩

def kOk : D → Const → Bool
  | .int i, .int j => decide (i = j)
  | .bl b, .bool c => decide (b = c)
  | .non, .none => true
  | .str s, .str t => decide (s = t)
  | _, _ => false
def plainT : Expr → Bool
  | .Call _ _ _ _ => true
  | .List _ _ => true
  | .BinOp _ _ _ _ => true
  | _ => false
def plainIx : Expr → Bool
  | .Slice _ _ _ _ => false
  | _ => true
def tyOk (T : Ty) (y : Str) : Bool := decide (y = (tyS T : Str))

/-- a target of names -/
def chkN (C : Ck) (i : Nat) : Expr → Bool
  | .Name x _ => decide (C.N[i]? = some x) && C.loc x
  | _ => false
def chkNs (C : Ck) : List Nat → List Expr → Bool
  | [], [] => true
  | i :: is, p :: ps => chkN C i p && chkNs C is ps
  | _, _ => false
def chkG (C : Ck) : Tn → Expr → Bool
  | .nm i, p => chkN C i p
  | .tp is, .Tuple ps _ _ => chkNs C is ps
  | _, _ => false
def isTup : Expr → Bool
  | .Tuple _ _ _ => true
  | _ => false
def ownOf (N : List Str) (is : List Nat) : List (Str × Nat) := is.map fun i => (N[i]?.getD (""), i)

mutual
def chkE (C : Ck) : E → Expr → Bool
  | .k d, .Constant c _ _ => kOk d c
  | .v i, .Name x _ => decide (C.N[i]? = some x) && C.vis x && !(x == ("__debug__" : Str)) && !(x == ("__classdict__" : Str))
  | .g y _, .Name x _ => decide (x = y) && C.gl x
  | .bin o a b, .BinOp pa op pb _ => decide (opOf o = op) && chkE C a pa && chkE C b pb
  | .neg a, .UnaryOp op pa _ => decide (op = .USub) && chkE C a pa
  | .nt a, .UnaryOp op pa _ => decide (op = .Not) && chkE C a pa
  | .bop c es, .BoolOp op ps _ => decide (op = if c then .And else .Or) && chkB C es ps
  | .cmp a cs, .Compare pa ops ps _ => chkE C a pa && !(lastMarks ops ps) && chkC C cs ops ps
  | .ite c a b, .IfExp pc pa pb _ => chkE C c pc && chkE C a pa && chkE C b pb
  | .lst es, .List ps _ => chkEs C es ps
  | .tup es, .Tuple ps _ _ => chkEs C es ps
  | .ix a b, .Subscript pa pb _ => plainIx pb && chkE C a pa && chkE C b pb
  | .sl a lo hi bl bh, .Subscript pa (.Slice l h none _) _ => chkE C a pa && (match l with
      | none => !bl && (match lo with | .k .non => true | _ => false)
      | some p => bl && chkE C lo p) && (match h with
      | none => !bh && (match hi with | .k .non => true | _ => false)
      | some p => bh && chkE C hi p)
  | .lc elt t it cs, .ListComp pe [⟨tg, iter, ifs, ias⟩] scope _ => decide (ias = 0) && notSet iter && chkI C it iter (isTup tg) && chkG (C.blk scope) t tg && blkC C.N C.sc scope (ownOf C.N t.ix) && chkT (C.blk scope) cs ifs && chkE (C.blk scope) elt pe
  | .call x _ es ks kw, .Call (.Name y _) ps kws _ => decide (y = x) && C.gl y && chkEs C es ps && kws.all (fun k => k.arg.isSome) && decide (kws.filterMap (·.arg) = kw) && decide (ks.len = kw.length) && chkK C ks kws
  | .bi b es, .Call (.Name y _) ps kws _ => kws.isEmpty && decide (y = biName b) && C.gl y && !ps.isEmpty && chkEs C es ps
  | .isi a ts one, .Call (.Name y _) [pa, pt] kws _ => one && kws.isEmpty && decide (y = "isinstance") && C.gl y && notStar pa && chkE C a pa && (match ts, pt with
      | [T], .Name z _ => tyOk T z && C.gl z
      | [T, U], .Tuple [.Name z _, .Name z2 _] _ _ => tyOk T z && C.gl z && tyOk U z2 && C.gl z2
      | _, _ => false)
  | .me m o es, .Call (.Attribute po x apos) ps kws pos => kws.isEmpty && decide (x = (meNm m : Str)) && notCall po && apos.endLine == pos.line && chkE C o po && chkEs C es ps && decide (es.len ≤ 1)
  | .own e, p => plainT p && chkE C e p
  | .rgl a b, .Call (.Name y _) [.Call (.Name z _) ps kws2 _] kws _ => kws.isEmpty && kws2.isEmpty && decide (y = "list") && decide (z = "range") && C.gl y && C.gl z && (match ps with
      | [pb] => (match a with | .k (.int i) => decide (i = 0) | _ => false) && notStar pb && chkE C b pb
      | [pa, pb] => notStar pa && notStar pb && chkE C a pa && chkE C b pb
      | _ => false)
  | .lset a, .Call (.Name y _) [.Call (.Name z _) [pa] kws2 _] kws _ => kws.isEmpty && kws2.isEmpty && decide (y = "len") && decide (z = "set") && C.gl y && C.gl z && notStar pa && chkE C a pa
  | .bits a, .Call (.Attribute po x apos) ps kws pos => kws.isEmpty && ps.isEmpty && decide (x = "bit_length") && notCall po && apos.endLine == pos.line && chkE C a po
  | .rev a, .Subscript pa (.Slice none none (some (.UnaryOp op (.Constant (.int i) _ _) _)) _) _ => decide (op = .USub) && decide (i = 1) && chkE C a pa
  | _, _ => false
def chkEs (C : Ck) : Es → List Expr → Bool
  | .nil, [] => true
  | .cons e es, p :: ps => notStar p && chkE C e p && chkEs C es ps
  | _, _ => false
def chkB (C : Ck) : Es → List Expr → Bool
  | .cons e .nil, [p] => chkE C e p
  | .cons e (.cons e' es), p :: p' :: ps => chkE C e p && chkB C (.cons e' es) (p' :: ps)
  | _, _ => false
def chkC (C : Ck) : Cs → List CmpOp → List Expr → Bool
  | .cons o e .nil, [op], [p] => decide (cmOf o = op) && chkE C e p
  | .cons o e (.cons o' e' cs), op :: op' :: ops, p :: p' :: ps => decide (cmOf o = op) && chkE C e p && chkC C (.cons o' e' cs) (op' :: ops) (p' :: ps)
  | _, _, _ => false
def chkI (C : Ck) : I → Expr → Bool → Bool
  | .seq e, p, _ => chkE C e p
  | .rng es, .Call (.Name y _) ps kws _, _ => kws.isEmpty && decide (y = "range") && C.gl y && chkEs C es ps && decide (1 ≤ ps.length) && decide (ps.length ≤ 3)
  | .enm e, .Call (.Name y _) [p] kws _, t => t && kws.isEmpty && decide (y = "enumerate") && C.gl y && notStar p && chkE C e p
  | .zip a b, .Call (.Name y _) [p, q] kws _, t => t && kws.isEmpty && decide (y = "zip") && C.gl y && notStar p && notStar q && chkE C a p && chkE C b q
  | _, _, _ => false
def chkT (C : Ck) : Es → List Expr → Bool
  | .nil, [] => true
  | .cons e .nil, [p] => chkE C e p
  | _, _ => false
def chkK (C : Ck) : Es → List Keyword → Bool
  | .nil, [] => true
  | .cons e es, ⟨_, p, _⟩ :: ps => chkE C e p && chkK C es ps
  | _, _ => false
end

/-! ### what is leaned on -/
section
variable (P : Program) (w : World) (K : PySem.W.Frag) (mg : Str → Option Value) (base : Heap) (k : Nat)
mutual
def NdE : E → Prop
  | .g x d => ∃ v u, mg x = some u ∧ RelV v u ∧ Sc v d
  | .bin _ a b => NdE a ∧ NdE b
  | .neg a => NdE a
  | .nt a => NdE a
  | .bop _ es => NdEs es
  | .cmp a cs => NdE a ∧ NdC cs
  | .ite c a b => NdE c ∧ NdE a ∧ NdE b
  | .lst es => NdEs es
  | .tup es => NdEs es
  | .ix a b => NdE a ∧ NdE b
  | .sl a lo hi _ _ => NdE a ∧ NdE lo ∧ NdE hi
  | .lc elt _ it cs => NdE elt ∧ NdI it ∧ NdEs cs
  | .call x f es ks kw => Fa P w K mg base k x f es.len kw ∧ NdEs es ∧ NdEs ks
  | .bi b es => mg (biName b) = none ∧ NdEs es
  | .isi a ts _ => mg "isinstance" = none ∧ (∀ T ∈ ts, mg (tyS T : Str) = none) ∧ NdE a
  | .me _ o es => NdE o ∧ NdEs es
  | .own e => NdE e
  | .rev e => NdE e
  | .rgl a b => mg "list" = none ∧ mg "range" = none ∧ NdE a ∧ NdE b
  | .bits e => NdE e
  | .lset e => mg "len" = none ∧ mg "set" = none ∧ NdE e
  | .k _ => True
  | .v _ => True
def NdEs : Es → Prop
  | .nil => True
  | .cons e es => NdE e ∧ NdEs es
def NdC : Cs → Prop
  | .nil => True
  | .cons _ e cs => NdE e ∧ NdC cs
def NdI : I → Prop
  | .seq e => NdE e
  | .rng es => mg "range" = none ∧ NdEs es
  | .enm e => mg "enumerate" = none ∧ NdE e
  | .zip a b => mg "zip" = none ∧ NdE a ∧ NdE b
end
end

structure Ctx (C : Ck) (k : Nat) (X : Cx) (W : WX) : Prop where
  N : X.N = C.N
  nd : X.N.Nodup
  sc : X.env.scope = C.sc
  fb : ∀ x, C.fb x = true → X.fn x = true
  calm : X.calm = true
  room : Room k X.A
  gd : X.A.guards = some []
  tk : Takes X W

section
variable {C : Ck} {k : Nat} {X : Cx} {W : WX}
theorem Ctx.units (c : Ctx C k X W) : X.A.units + 65 < cLine := by have := c.room.un; omega
theorem Ctx.gl (c : Ctx C k X W) {x : Str} (h : C.gl x = true) : Gl X x ∧ (x == ("__debug__" : Str)) = false := by
  unfold Ck.gl at h
  split at h
  · rename_i e
    refine ⟨?_, by simpa using h⟩
    show X.env.scope.names.lookup x = some .globalImplicit
    rw [c.sc]; exact e
  · cases h
theorem Ctx.vis (c : Ctx C k X W) {x : Str} (h : C.vis x = true) : Vis X.env.scope x := by
  unfold Ck.vis at h
  rw [Vis, c.sc]
  split at h <;> first | exact .inl (by assumption) | exact .inr (.inl (by assumption)) | exact .inr (.inr (by assumption)) | cases h
theorem Ctx.loc (c : Ctx C k X W) {x : Str} (h : C.loc x = true) : L2.Loc X.env.scope x ∧ (X.fn x = true ∨ X.env.scope.names.lookup x = some .local) := by
  unfold Ck.loc at h
  rw [L2.Loc, c.sc]
  split at h
  · rename_i e; exact ⟨.inl e, .inr e⟩
  · rename_i e; exact ⟨.inr e, .inl (c.fb x h)⟩
  · cases h
theorem Ctx.blk (c : Ctx C k X W) (s : Shared) (H : Hp) (C' : Addr) (cl : List (Str × Addr)) (fp : List Addr) (scope : Scope) : Ctx (C.blk scope) k (X.blk s H scope (compEnvC scope cl C' X.env) fp) noW :=
  ⟨c.N, c.nd, by show relS scope X.env.scope = relS scope C.sc; rw [c.sc], fun x h => h, c.calm, c.room, c.gd, fun u s' ⟨_, _, _, _, _, _, _, _, _, _, _, _, _, _, _, _, w⟩ => w.elim⟩

theorem g_of (c : Ctx C k X W) {i : Nat} {p : Expr} (h : chkN C i p = true) : PG X p (TGv X.K (.nm i)) := by
  cases p <;> try (cases h)
  rename_i x pos
  simp only [chkN, Bool.and_eq_true, decide_eq_true_eq] at h
  obtain ⟨l1, l2⟩ := c.loc h.2
  exact g_nm c.nd (by rw [c.N]; exact h.1) l1 l2
theorem asg_cons {i : Nat} {p : Expr} {ps : List Expr} {env : Env} (h : chkN C i p = true) : assignEach (p :: ps) env = (false, assign p env) :: assignEach ps env := by
  cases p <;> first | (cases h; done) | rfl
theorem gs_of (c : Ctx C k X W) : ∀ {is : List Nat} {ps : List Expr}, chkNs C is ps = true → PGs X ps (TGvs X.K is) ∧ (assignEach ps X.env).length = is.length ∧ (assignEach ps X.env).findIdx? (·.1) = none
  | [], [], _ => ⟨gs_nil, rfl, rfl⟩
  | [], _ :: _, h => by cases h
  | _ :: _, [], h => by cases h
  | i :: is, p :: ps, h => by
    simp only [chkNs, Bool.and_eq_true] at h
    obtain ⟨h1, h2, h3⟩ := gs_of c h.2
    have e := asg_cons (env := X.env) (ps := ps) h.1
    refine ⟨gs_cons (g_of c h.1) h1 (by rw [e]; rfl), by rw [e]; simp [h2], ?_⟩
    rw [e, List.findIdx?_cons]
    simp only [Bool.false_eq_true, if_false, h3, Option.map_none]
theorem tg_of (c : Ctx C k X W) {t : Tn} {p : Expr} (h : chkG C t p = true) : PG X p (TGv X.K t) := by
  cases t with
  | nm i => exact g_of c h
  | tp is =>
    cases p <;> try (cases h)
    rename_i ps j pos
    obtain ⟨h1, h2, h3⟩ := gs_of c (show chkNs C is ps = true from h)
    exact g_tp c.calm h1 h2 h3

theorem es_len : ∀ {es : Es} {ps : List Expr}, chkEs C es ps = true → ps.all notStar = true ∧ ps.length = es.len
  | .nil, [], _ => ⟨rfl, rfl⟩
  | .nil, _ :: _, h => by simp [chkEs] at h
  | .cons _ _, [], h => by simp [chkEs] at h
  | .cons e es, p :: ps, h => by
    simp only [chkEs, Bool.and_eq_true] at h
    obtain ⟨h1, h2⟩ := es_len h.2
    exact ⟨by rw [List.all_cons, h.1.1, h1]; rfl, by simp [Es.len, h2]⟩
end
end Pyf

/-! Pyf, part O: expressions are read aright. -/
namespace Pyf
open PySem PySem.Spec PyProof.Rows L2
open PySem (Str)

abbrev NdX (X : Cx) (k : Nat) (e : E) : Prop := NdE X.prog X.w X.K X.mg X.base k e
abbrev NdXs (X : Cx) (k : Nat) (e : Es) : Prop := NdEs X.prog X.w X.K X.mg X.base k e
abbrev NdXC (X : Cx) (k : Nat) (e : Cs) : Prop := NdC X.prog X.w X.K X.mg X.base k e
abbrev NdXI (X : Cx) (k : Nat) (e : I) : Prop := NdI X.prog X.w X.K X.mg X.base k e

theorem own_ix {N : List Str} (is : List Nat) : (ownOf N is).map (·.2) = is := by
  unfold ownOf
  rw [List.map_map]
  exact List.map_id _

theorem opB {op : BoolOp} {c : Bool} (h : op = if c = true then .And else .Or) : op = .And ∧ c = true ∨ op = .Or ∧ c = false := by
  cases c with
  | true => exact .inl ⟨h, rfl⟩
  | false => exact .inr ⟨h, rfl⟩

theorem lc_all {C : Ck} {k : Nat} {X : Cx} {W : WX} (c : Ctx C k X W) {elt : E} {t : Tn} {it : I} {cs : Es} {pe tg iter : Expr} {ifs : List Expr} {scope : Scope} {pos : Pos} (hn : notSet iter = true) (hi : SI X W tg iter (evI it)) (hg : chkG (C.blk scope) t tg = true) (hb : blkC C.N C.sc scope (ownOf C.N t.ix) = true)
    (hT : ∀ {X : Cx} {W : WX}, Ctx (C.blk scope) k X W → NdXs X k cs → PTs X ifs (TTv X.K X.mg W (evTs cs))) (hE : ∀ {X : Cx} {W : WX}, Ctx (C.blk scope) k X W → NdX X k elt → SE X W pe (ev elt).e) (nE : NdX X k elt) (nT : NdXs X k cs) :
    SE X W (.ListComp pe [⟨tg, iter, ifs, 0⟩] scope pos) (ev (.lc elt t it cs)).e := by
  have ok : BlkOk X.N X.env.scope scope (ownOf C.N t.ix) := by rw [c.N, c.sc]; exact blkOk_by hb
  refine PE.weak (pe_lc (tg := tg) (iter := iter) (ifs := ifs) (g := TGv X.K t) (tt := TTv X.K X.mg noW (evTs cs)) (te := TEv X.K X.mg noW (ev elt).e) c.calm c.nd hi ok (fun s H C' cl fp => tg_of (c.blk s H C' cl fp scope) hg) (fun s H C' cl fp => hT (c.blk s H C' cl fp scope) nT) (fun s H C' cl fp => hE (c.blk s H C' cl fp scope) nE) ?_) fun σ H Q h => lc_read (own_ix _) σ H Q h
  cases iter <;> first | (intro _; rfl) | cases hn

theorem se_k {X : Cx} {W : WX} {d : D} {cc : Const} {j : Nat} {pos : Pos} (h : kOk d cc = true) : SE X W (.Constant cc j pos) (ev (.k d)).e := by
  cases d <;> cases cc <;> first | (cases h; done) | (simp only [kOk, decide_eq_true_eq] at h; subst h; first | exact s_int | exact s_bl | exact s_str) | exact s_non
mutual
theorem snE : ∀ (e : E) {C : Ck} {k : Nat} {X : Cx} {W : WX} {pe : Expr}, Ctx C k X W → chkE C e pe = true → NdX X k e → SE X W pe (ev e).e ∧ ST X W pe (ev e).t
  | .k d, C, k, X, W, pe, c, h, n => by
    cases pe <;> try (simp [chkE] at h; done)
    rename_i cc j pos
    have h : kOk d cc = true := by simpa only [chkE] using h
    have s : SE X W (.Constant cc j pos) (ev (.k d)).e := by
      cases d <;> cases cc <;> first | (cases h; done) | (simp only [kOk, decide_eq_true_eq] at h; subst h; first | exact s_int | exact s_bl | exact s_str) | exact s_non
    exact ⟨s, t_of s fun _ => rfl⟩
  | .v i, C, k, X, W, pe, c, h, n => by
    cases pe <;> try (simp [chkE] at h; done)
    rename_i x pos
    simp only [chkE, Bool.and_eq_true, decide_eq_true_eq, Bool.not_eq_true'] at h
    have s := s_var (W := W) (pos := pos) (by rw [c.N]; exact h.1.1.1) (c.vis h.1.1.2) h.1.2 h.2
    exact ⟨s, t_of s fun _ => rfl⟩
  | .g y d, C, k, X, W, pe, c, h, n => by
    cases pe <;> try (simp [chkE] at h; done)
    rename_i x pos
    simp only [chkE, Bool.and_eq_true, decide_eq_true_eq] at h
    obtain ⟨rfl, h⟩ := h
    obtain ⟨g1, g2⟩ := c.gl h
    obtain ⟨v, u, n1, n2, n3⟩ := n
    have s := s_glob (W := W) (pos := pos) g1 n1 n2 n3 g2
    exact ⟨s, t_of s fun _ => rfl⟩
  | .bin o a b, C, k, X, W, pe, c, h, n => by
    cases pe <;> try (simp [chkE] at h; done)
    rename_i pa op pb pos
    simp only [chkE, Bool.and_eq_true, decide_eq_true_eq] at h
    obtain ⟨⟨rfl, h1⟩, h2⟩ := h
    have s := s_bin (W := W) (pos := pos) o (snE a c h1 n.1).1 (snE b c h2 n.2).1
    exact ⟨s, t_of s fun _ => rfl⟩
  | .neg a, C, k, X, W, pe, c, h, n => by
    cases pe <;> try (simp [chkE] at h; done)
    rename_i op pa pos
    simp only [chkE, Bool.and_eq_true, decide_eq_true_eq] at h
    obtain ⟨rfl, h1⟩ := h
    have s := s_neg (W := W) (pos := pos) (snE a c h1 n).1
    exact ⟨s, t_of s fun _ => rfl⟩
  | .nt a, C, k, X, W, pe, c, h, n => by
    cases pe <;> try (simp [chkE] at h; done)
    rename_i op pa pos
    simp only [chkE, Bool.and_eq_true, decide_eq_true_eq] at h
    obtain ⟨rfl, h1⟩ := h
    have s := snE a c h1 n
    exact ⟨s_nt s.1, t_nt s.2⟩
  | .bop b es, C, k, X, W, pe, c, h, n => by
    cases pe <;> try (simp [chkE] at h; done)
    rename_i op ps pos
    simp only [chkE, Bool.and_eq_true, decide_eq_true_eq] at h
    have s := snB es (W := W) (pos := pos) c h.2 n (opB h.1)
    exact ⟨s.1, s.2.pt⟩
  | .cmp a cs, C, k, X, W, pe, c, h, n => by
    cases pe <;> try (simp [chkE] at h; done)
    rename_i pa ops ps pos
    simp only [chkE, Bool.and_eq_true, Bool.not_eq_true'] at h
    have sa := (snE a (W := W) c h.1.1 n.1).1
    have sc := snC cs (W := W) c h.2 n.2
    exact ⟨s_cmp sa sc h.1.2, t_cmp sa sc h.1.2⟩
  | .ite a b d, C, k, X, W, pe, c, h, n => by
    cases pe <;> try (simp [chkE] at h; done)
    rename_i pc pa pb pos
    simp only [chkE, Bool.and_eq_true] at h
    have s1 := snE a (W := W) c h.1.1 n.1
    have s2 := snE b (W := W) c h.1.2 n.2.1
    have s3 := snE d (W := W) c h.2 n.2.2
    exact ⟨s_ite s1.2 s2.1 s3.1, t_ite s1.2 s2.2 s3.2⟩
  | .lst es, C, k, X, W, pe, c, h, n => by
    cases pe <;> try (simp [chkE] at h; done)
    rename_i ps pos
    have s := s_lst (W := W) (pos := pos) (snEs es c (by simpa only [chkE] using h) n)
    exact ⟨s, t_of s fun _ => rfl⟩
  | .tup es, C, k, X, W, pe, c, h, n => by
    cases pe <;> try (simp [chkE] at h; done)
    rename_i ps j pos
    have s := s_tup (W := W) (k := j) (pos := pos) (snEs es c (by simpa only [chkE] using h) n)
    exact ⟨s, t_of s fun _ => rfl⟩
  | .ix a b, C, k, X, W, pe, c, h, n => by
    cases pe <;> try (simp [chkE] at h; done)
    rename_i pa pb pos
    simp only [chkE, Bool.and_eq_true] at h
    have hp : PlainIx pb := by cases pb <;> first | (intro _ _; rfl) | (cases h.1.1; done)
    have s := s_ix (W := W) (pos := pos) (snE a c h.1.2 n.1).1 (snE b c h.2 n.2).1 hp
    exact ⟨s, t_of s fun _ => rfl⟩
  | .sl a lo hi bl bh, C, k, X, W, pe, c, h, n => by
    cases pe <;> try (simp [chkE] at h; done)
    rename_i pa pb pos
    cases pb <;> try (simp [chkE] at h; done)
    rename_i l u st p2
    cases st <;> try (simp [chkE] at h; done)
    simp only [chkE, Bool.and_eq_true] at h
    obtain ⟨⟨h1, h2⟩, h3⟩ := h
    have s2 : PO X l (TOv X.K X.mg W bl (ev lo).e) := by
      cases l with
      | none =>
        simp only [Bool.and_eq_true, Bool.not_eq_true'] at h2
        obtain ⟨rfl, h2⟩ := h2
        split at h2
        · exact so_none
        · cases h2
      | some p =>
        simp only [Bool.and_eq_true] at h2
        obtain ⟨rfl, h2⟩ := h2
        exact so_some (snE lo c h2 n.2.1).1
    have s3 : PO X u (TOv X.K X.mg W bh (ev hi).e) := by
      cases u with
      | none =>
        simp only [Bool.and_eq_true, Bool.not_eq_true'] at h3
        obtain ⟨rfl, h3⟩ := h3
        split at h3
        · exact so_none
        · cases h3
      | some p =>
        simp only [Bool.and_eq_true] at h3
        obtain ⟨rfl, h3⟩ := h3
        exact so_some (snE hi c h3 n.2.2).1
    have s := s_sl (pos := pos) (p2 := p2) (snE a (W := W) c h1 n.1).1 s2 s3
    exact ⟨s, t_of s fun _ => rfl⟩
  | .lc elt t it cs, C, k, X, W, pe, c, h, n => by
    cases pe <;> try (simp [chkE] at h; done)
    rename_i pe gens scope pos
    cases gens with
    | nil => simp [chkE] at h
    | cons g gs =>
      cases gs with
      | cons _ _ => simp [chkE] at h
      | nil =>
        obtain ⟨tg, iter, ifs, ias⟩ := g
        simp only [chkE, Bool.and_eq_true, decide_eq_true_eq] at h
        obtain ⟨⟨⟨⟨⟨⟨rfl, h0⟩, h1⟩, h2⟩, h3⟩, h4⟩, h5⟩ := h
        have s := lc_all (pos := pos) c h0 (snI it (W := W) (tg := tg) c h1 n.2.1) h2 h3 (fun c' n' => snT cs c' h4 n') (fun c' n' => (snE elt c' h5 n').1) n.1 n.2.2
        exact ⟨s, t_of s fun _ => rfl⟩
  | .call x f es ks kw, C, k, X, W, pe, c, h, n => by
    cases pe <;> try (simp [chkE] at h; done)
    rename_i pf ps kws pos
    cases pf <;> try (simp [chkE] at h; done)
    rename_i y p
    simp only [chkE, Bool.and_eq_true, decide_eq_true_eq] at h
    obtain ⟨⟨⟨⟨⟨⟨rfl, h1⟩, h2⟩, h3⟩, h4⟩, h5⟩, h6⟩ := h
    obtain ⟨g1, g2⟩ := c.gl h1
    obtain ⟨nF, n1, n2⟩ := n
    obtain ⟨l1, l2⟩ := es_len h2
    have sa := snEs es (W := W) c h2 n1
    have sk := snK ks (W := W) c h6 n2
    have s : SE X W (.Call (.Name y p) ps kws pos) (ev (.call y f es ks kw)).e := by
      cases kws with
      | nil =>
        have : kw = [] := h4.symm
        subst this
        have hk : ks = .nil := by cases ks with
          | nil => rfl
          | cons _ _ => simp [Es.len] at h5
        subst hk
        cases ps with
        | nil =>
          have he : es = .nil := by cases es with
            | nil => rfl
            | cons _ _ => simp [Es.len] at l2
          subst he
          exact s_call0 c.room c.gd c.tk g1 g2 nF
        | cons p0 ps => exact s_call c.room c.gd c.tk g1 g2 nF l1 sa
      | cons k0 kws =>
        cases ps with
        | nil =>
          have he : es = .nil := by cases es with
            | nil => rfl
            | cons _ _ => simp [Es.len] at l2
          subst he
          exact s_callK0 c.room c.gd c.tk g1 g2 nF h3 h4 h5 sk
        | cons p0 ps => exact s_callK c.room c.gd c.tk g1 g2 nF l1 sa h3 h4 h5 sk
    exact ⟨s, t_of s fun _ => rfl⟩
  | .bi b es, C, k, X, W, pe, c, h, n => by
    cases pe <;> try (simp [chkE] at h; done)
    rename_i pf ps kws pos
    cases pf <;> try (simp [chkE] at h; done)
    rename_i y p
    simp only [chkE, Bool.and_eq_true, decide_eq_true_eq, Bool.not_eq_true'] at h
    obtain ⟨⟨⟨⟨h0, rfl⟩, h1⟩, h2⟩, h3⟩ := h
    have : kws = [] := by simpa using h0
    subst this
    obtain ⟨g1, g2⟩ := c.gl h1
    obtain ⟨l1, l2⟩ := es_len h3
    cases ps with
    | nil => cases h2
    | cons p0 ps =>
      have s := s_bi (W := W) (pos := pos) (p := p) b c.calm c.gd c.units rfl g1 n.1 l1 (snEs es c h3 n.2)
      exact ⟨s, t_of s fun _ => rfl⟩
  | .isi a ts one, C, k, X, W, pe, c, h, n => by
    cases pe <;> try (simp [chkE] at h; done)
    rename_i pf ps kws pos
    cases pf <;> try (simp [chkE] at h; done)
    rename_i y p
    cases ps with
    | nil => simp [chkE] at h
    | cons pa ps =>
      cases ps with
      | nil => simp [chkE] at h
      | cons pt ps =>
        cases ps with
        | cons _ _ => simp [chkE] at h
        | nil =>
          simp only [chkE, Bool.and_eq_true, decide_eq_true_eq] at h
          obtain ⟨⟨⟨⟨⟨⟨rfl, h0⟩, rfl⟩, h1⟩, h2⟩, h3⟩, h4⟩ := h
          have : kws = [] := by simpa using h0
          subst this
          split at h4
          · rename_i T z p2
            simp only [Bool.and_eq_true, tyOk, decide_eq_true_eq] at h4
            have s := s_isi1 (W := W) (pos := pos) (p := p) (p2 := p2) rfl h4.1 (c.gl h1).1 n.1 (c.gl h4.2).1 (by rw [h4.1]; exact n.2.1 T (by simp)) h2 (snE a c h3 n.2.2).1
            exact ⟨s, t_of s fun _ => rfl⟩
          · rename_i T U z p2 z2 p3 k' p4
            simp only [Bool.and_eq_true, tyOk, decide_eq_true_eq] at h4
            have s := s_isi2 (W := W) (pos := pos) (p := p) (p2 := p2) (p3 := p3) (tp := p4) (k := k') rfl h4.1.1.1 h4.1.2 (c.gl h1).1 n.1 (c.gl h4.1.1.2).1 (by rw [h4.1.1.1]; exact n.2.1 T (by simp)) (c.gl h4.2).1 (by rw [h4.1.2]; exact n.2.1 U (by simp)) h2 (snE a c h3 n.2.2).1
            exact ⟨s, t_of s fun _ => rfl⟩
          · cases h4
  | .bits a, C, k, X, W, pe, c, h, n => by
    cases pe <;> try (simp [chkE] at h; done)
    rename_i pf ps kws pos
    cases pf <;> try (simp [chkE] at h; done)
    rename_i po x apos
    simp only [chkE, Bool.and_eq_true, decide_eq_true_eq, List.isEmpty_iff] at h
    obtain ⟨⟨⟨⟨⟨rfl, rfl⟩, rfl⟩, h1⟩, h2⟩, h3⟩ := h
    have s := s_bits (pos := pos) (apos := apos) h1 h2 (snE a (W := W) c h3 n).1
    exact ⟨s, t_of s fun _ => rfl⟩
  | .me m o es, C, k, X, W, pe, c, h, n => by
    cases pe <;> try (simp [chkE] at h; done)
    rename_i pf ps kws pos
    cases pf <;> try (simp [chkE] at h; done)
    rename_i po x apos
    simp only [chkE, Bool.and_eq_true, decide_eq_true_eq] at h
    obtain ⟨⟨⟨⟨⟨⟨h0, rfl⟩, h1⟩, h2⟩, h3⟩, h4⟩, h5⟩ := h
    have : kws = [] := by simpa using h0
    subst this
    have so := (snE o (W := W) c h3 n.1).1
    cases es with
    | nil =>
      cases ps with
      | cons _ _ => simp [chkEs] at h4
      | nil =>
        have s := s_me0 (pos := pos) (apos := apos) m c.units h1 h2 so
        exact ⟨s, t_of s fun _ => rfl⟩
    | cons e es =>
      have he : es = .nil := by cases es with
        | nil => rfl
        | cons _ _ => simp [Es.len] at h5
      subst he
      cases ps with
      | nil => simp [chkEs] at h4
      | cons p ps =>
        simp only [chkEs, Bool.and_eq_true] at h4
        have hp : ps = [] := by cases ps with
          | nil => rfl
          | cons _ _ => simp [chkEs] at h4
        subst hp
        have s := s_me (pos := pos) (apos := apos) m c.units h1 h2 h4.1.1 so (snE e c h4.1.2 n.2.1).1
        exact ⟨s, t_of s fun _ => rfl⟩
  | .rev a, C, k, X, W, pe, c, h, n => by
    cases pe <;> try (simp [chkE] at h; done)
    rename_i pa pb pos
    cases pb <;> try (simp [chkE] at h; done)
    rename_i l u st p2
    cases l <;> try (simp [chkE] at h; done)
    cases u <;> try (simp [chkE] at h; done)
    cases st <;> try (simp [chkE] at h; done)
    rename_i z
    cases z <;> try (simp [chkE] at h; done)
    rename_i op y p3
    cases y <;> try (simp [chkE] at h; done)
    rename_i cst k' p1
    cases cst <;> try (simp [chkE] at h; done)
    simp only [chkE, Bool.and_eq_true, decide_eq_true_eq] at h
    obtain ⟨⟨rfl, rfl⟩, h3⟩ := h
    have s := s_rev (W := W) (pos := pos) (k := k') (p1 := p1) (p2 := p3) (p3 := p2) (snE a c h3 n).1
    exact ⟨s, t_of s fun _ => rfl⟩
  | .rgl a b, C, k, X, W, pe, c, h, n => by
    cases pe <;> try (simp [chkE] at h; done)
    rename_i f ps kws pos
    cases f <;> try (simp [chkE] at h; done)
    rename_i y p
    cases ps with
    | nil => simp [chkE] at h
    | cons pr ps =>
      cases ps with
      | cons _ _ => cases pr <;> simp [chkE] at h
      | nil =>
        cases pr <;> try (simp [chkE] at h; done)
        rename_i f2 ps2 kws2 q
        cases f2 <;> try (simp [chkE] at h; done)
        rename_i z p2
        simp only [chkE, Bool.and_eq_true, decide_eq_true_eq, List.isEmpty_iff] at h
        obtain ⟨⟨⟨⟨⟨⟨rfl, rfl⟩, hy⟩, hz⟩, g1⟩, g2⟩, h3⟩ := h
        have G1 := (c.gl g1).1
        have G2 := (c.gl g2).1
        cases ps2 with
        | nil => simp at h3
        | cons pa ps2 =>
          cases ps2 with
          | nil =>
            simp only [Bool.and_eq_true] at h3
            obtain ⟨⟨h4, h5⟩, h6⟩ := h3
            have ea : a = .k (.int 0) := by
              split at h4
              · rw [of_decide_eq_true h4]
              · cases h4
            subst ea
            have s := s_rgl1 (W := W) (pos := pos) (p := p) (p2 := p2) (q := q) hy hz c.calm G1 (by rw [hy]; exact n.1) G2 (by rw [hz]; exact n.2.1) h5 (snE b c h6 n.2.2.2).1
            exact ⟨s, t_of s fun _ => rfl⟩
          | cons pb ps2 =>
            cases ps2 with
            | nil =>
              simp only [Bool.and_eq_true] at h3
              obtain ⟨⟨⟨h4, h5⟩, h6⟩, h7⟩ := h3
              have s := s_rgl2 (W := W) (pos := pos) (p := p) (p2 := p2) (q := q) hy hz c.calm G1 (by rw [hy]; exact n.1) G2 (by rw [hz]; exact n.2.1) h4 h5 (snE a c h6 n.2.2.1).1 (snE b c h7 n.2.2.2).1
              exact ⟨s, t_of s fun _ => rfl⟩
            | cons _ _ => simp at h3
  | .lset a, C, k, X, W, pe, c, h, n => by
    cases pe <;> try (simp [chkE] at h; done)
    rename_i f ps kws pos
    cases f <;> try (simp [chkE] at h; done)
    rename_i y p
    cases ps with
    | nil => simp [chkE] at h
    | cons pr ps =>
      cases ps with
      | cons _ _ => cases pr <;> simp [chkE] at h
      | nil =>
        cases pr <;> try (simp [chkE] at h; done)
        rename_i f2 ps2 kws2 q
        cases f2 <;> try (simp [chkE] at h; done)
        rename_i z p2
        cases ps2 with
        | nil => simp [chkE] at h
        | cons pa ps2 =>
          cases ps2 with
          | cons _ _ => simp [chkE] at h
          | nil =>
            simp only [chkE, Bool.and_eq_true, decide_eq_true_eq, List.isEmpty_iff] at h
            obtain ⟨⟨⟨⟨⟨⟨⟨rfl, rfl⟩, hy⟩, hz⟩, g1⟩, g2⟩, h3⟩, h4⟩ := h
            have s := s_lset (W := W) (pos := pos) (p := p) (p2 := p2) (q := q) hy hz c.calm (c.gl g1).1 (by rw [hy]; exact n.1) (c.gl g2).1 (by rw [hz]; exact n.2.1) h3 (snE a c h4 n.2.2).1
            exact ⟨s, t_of s fun _ => rfl⟩
  | .own e, C, k, X, W, pe, c, h, n => by
    simp only [chkE, Bool.and_eq_true] at h
    have s := s_own (snE e (W := W) c h.2 n).1
    refine ⟨s, t_of s ?_⟩
    have hp := h.1
    cases pe <;> first | (intro _; rfl) | (cases hp; done)
theorem snEs : ∀ (es : Es) {C : Ck} {k : Nat} {X : Cx} {W : WX} {ps : List Expr}, Ctx C k X W → chkEs C es ps = true → NdXs X k es → SA X W ps (evs es)
  | .nil, C, k, X, W, ps, c, h, n => by
    cases ps with
    | nil => exact s_nil
    | cons _ _ => simp [chkEs] at h
  | .cons e es, C, k, X, W, ps, c, h, n => by
    cases ps with
    | nil => simp [chkEs] at h
    | cons p ps =>
      simp only [chkEs, Bool.and_eq_true] at h
      exact s_cons h.1.1 (snE e c h.1.2 n.1).1 (snEs es c h.2 n.2)
theorem snB : ∀ (es : Es) {C : Ck} {k : Nat} {X : Cx} {W : WX} {ps : List Expr} {op : BoolOp} {b : Bool} {pos : Pos}, Ctx C k X W → chkB C es ps = true → NdXs X k es → (op = .And ∧ b = true ∨ op = .Or ∧ b = false) →
    SE X W (.BoolOp op ps pos) (evB es b).e ∧ SW X W (.BoolOp op ps pos) (evB es b).t
  | .nil, C, k, X, W, ps, op, b, pos, c, h, n, ho => by simp [chkB] at h
  | .cons e .nil, C, k, X, W, ps, op, b, pos, c, h, n, ho => by
    cases ps with
    | nil => simp [chkB] at h
    | cons p ps =>
      cases ps with
      | cons _ _ => simp [chkB] at h
      | nil =>
        have s := snE e (W := W) c (by simpa only [chkB] using h) n.1
        exact ⟨s_one s.1, w_one s.2⟩
  | .cons e (.cons e' es), C, k, X, W, ps, op, b, pos, c, h, n, ho => by
    cases ps with
    | nil => simp [chkB] at h
    | cons p ps =>
      cases ps with
      | nil => simp [chkB] at h
      | cons p' ps =>
        simp only [chkB, Bool.and_eq_true] at h
        have s := snE e (W := W) c h.1 n.1
        have t := snB (.cons e' es) (W := W) (pos := pos) c h.2 n.2 ho
        rcases ho with ⟨rfl, rfl⟩ | ⟨rfl, rfl⟩
        · exact ⟨s_and s.1 t.1, w_and s.2 t.2⟩
        · exact ⟨s_or s.1 t.1, w_or s.2 t.2⟩
theorem snC : ∀ (cs : Cs) {C : Ck} {k : Nat} {X : Cx} {W : WX} {ops : List CmpOp} {ps : List Expr}, Ctx C k X W → chkC C cs ops ps = true → NdXC X k cs → SC X W ops ps cs
  | .nil, C, k, X, W, ops, ps, c, h, n => by simp [chkC] at h
  | .cons o e .nil, C, k, X, W, ops, ps, c, h, n => by
    cases ops with
    | nil => simp [chkC] at h
    | cons op ops =>
      cases ops with
      | cons _ _ => simp [chkC] at h
      | nil =>
        cases ps with
        | nil => simp [chkC] at h
        | cons p ps =>
          cases ps with
          | cons _ _ => simp [chkC] at h
          | nil =>
            simp only [chkC, Bool.and_eq_true, decide_eq_true_eq] at h
            obtain ⟨rfl, h⟩ := h
            exact sc_one c.units (snE e c h n.1).1
  | .cons o e (.cons o' e' cs), C, k, X, W, ops, ps, c, h, n => by
    cases ops with
    | nil => simp [chkC] at h
    | cons op ops =>
      cases ops with
      | nil => simp [chkC] at h
      | cons op' ops =>
        cases ps with
        | nil => simp [chkC] at h
        | cons p ps =>
          cases ps with
          | nil => simp [chkC] at h
          | cons p' ps =>
            simp only [chkC, Bool.and_eq_true, decide_eq_true_eq] at h
            obtain ⟨⟨rfl, h1⟩, h2⟩ := h
            exact sc_more c.units (snE e c h1 n.1).1 (snC (.cons o' e' cs) c h2 n.2)
theorem snI : ∀ (i : I) {C : Ck} {k : Nat} {X : Cx} {W : WX} {tg p : Expr}, Ctx C k X W → chkI C i p (isTup tg) = true → NdXI X k i → SI X W tg p (evI i)
  | .seq e, C, k, X, W, tg, p, c, h, n => si_seq (snE e c (by simpa only [chkI] using h) n).1
  | .rng es, C, k, X, W, tg, p, c, h, n => by
    cases p <;> try (simp [chkI] at h; done)
    rename_i pf ps kws pos
    cases pf <;> try (simp [chkI] at h; done)
    rename_i y p
    simp only [chkI, Bool.and_eq_true, decide_eq_true_eq] at h
    obtain ⟨⟨⟨⟨⟨h0, rfl⟩, h1⟩, h2⟩, h3⟩, h4⟩ := h
    have : kws = [] := by simpa using h0
    subst this
    obtain ⟨l1, l2⟩ := es_len h2
    have sa := snEs es (W := W) c h2 n.2
    have g := (c.gl h1).1
    match ps, l1, l2, h3, h4, sa with
    | [p1], l1, l2, _, _, sa => simp only [List.all_cons, List.all_nil, Bool.and_true] at l1; exact si_rng1 rfl g n.1 l1 l2.symm sa
    | [p1, p2], l1, l2, _, _, sa => simp only [List.all_cons, List.all_nil, Bool.and_true, Bool.and_eq_true] at l1; exact si_rng2 rfl g n.1 l1.1 l1.2 l2.symm sa
    | [p1, p2, p3], l1, l2, _, _, sa => simp only [List.all_cons, List.all_nil, Bool.and_true, Bool.and_eq_true] at l1; exact si_rng3 rfl g n.1 l1.1 l1.2.1 l1.2.2 l2.symm sa
    | [], _, _, h3, _, _ => simp at h3
    | _ :: _ :: _ :: _ :: _, _, _, _, h4, _ => simp at h4
  | .enm e, C, k, X, W, tg, p, c, h, n => by
    cases p <;> try (simp [chkI] at h; done)
    rename_i pf ps kws pos
    cases pf <;> try (simp [chkI] at h; done)
    rename_i y p
    cases ps with
    | nil => simp [chkI] at h
    | cons p1 ps =>
      cases ps with
      | cons _ _ => simp [chkI] at h
      | nil =>
        simp only [chkI, Bool.and_eq_true, decide_eq_true_eq] at h
        obtain ⟨⟨⟨⟨⟨ht, h0⟩, rfl⟩, h1⟩, h2⟩, h3⟩ := h
        have : kws = [] := by simpa using h0
        subst this
        cases tg <;> try (cases ht; done)
        exact si_enm rfl (c.gl h1).1 n.1 h2 (snE e c h3 n.2).1
  | .zip a b, C, k, X, W, tg, p, c, h, n => by
    cases p <;> try (simp [chkI] at h; done)
    rename_i pf ps kws pos
    cases pf <;> try (simp [chkI] at h; done)
    rename_i y p
    cases ps with
    | nil => simp [chkI] at h
    | cons p1 ps =>
      cases ps with
      | nil => simp [chkI] at h
      | cons p2 ps =>
        cases ps with
        | cons _ _ => simp [chkI] at h
        | nil =>
          simp only [chkI, Bool.and_eq_true, decide_eq_true_eq] at h
          obtain ⟨⟨⟨⟨⟨⟨⟨ht, h0⟩, rfl⟩, h1⟩, h2⟩, h3⟩, h4⟩, h5⟩ := h
          have : kws = [] := by simpa using h0
          subst this
          cases tg <;> try (cases ht; done)
          exact si_zip rfl (c.gl h1).1 n.1 h2 h3 (snE a c h4 n.2.1).1 (snE b c h5 n.2.2).1
theorem snT : ∀ (es : Es) {C : Ck} {k : Nat} {X : Cx} {W : WX} {ps : List Expr}, Ctx C k X W → chkT C es ps = true → NdXs X k es → PTs X ps (TTv X.K X.mg W (evTs es))
  | .nil, C, k, X, W, ps, c, h, n => by
    cases ps with
    | nil => exact ts_nil
    | cons _ _ => simp [chkT] at h
  | .cons e .nil, C, k, X, W, ps, c, h, n => by
    cases ps with
    | nil => simp [chkT] at h
    | cons p ps =>
      cases ps with
      | cons _ _ => simp [chkT] at h
      | nil => exact ts_one (snE e c (by simpa only [chkT] using h) n.1).2
  | .cons e (.cons e' es), C, k, X, W, ps, c, h, n => by cases ps <;> simp [chkT] at h
theorem snK : ∀ (es : Es) {C : Ck} {k : Nat} {X : Cx} {W : WX} {ps : List Keyword}, Ctx C k X W → chkK C es ps = true → NdXs X k es → SK X W ps (evs es)
  | .nil, C, k, X, W, ps, c, h, n => by
    cases ps with
    | nil => exact sk_nil
    | cons _ _ => simp [chkK] at h
  | .cons e es, C, k, X, W, ps, c, h, n => by
    cases ps with
    | nil => simp [chkK] at h
    | cons p ps =>
      obtain ⟨nm, pe, kp⟩ := p
      simp only [chkK, Bool.and_eq_true] at h
      exact sk_cons (snE e c h.1 n.1).1 (snK es c h.2 n.2)
end
end Pyf

/-! Pyf, part P: each statement's form. -/
namespace Pyf
open PySem PySem.Spec PyProof.Rows L2
open PySem (Str)

/-- names off T stand as they were -/
structure Fr (T : List Nat) (σ σ' : L2.St) : Prop where
  len : σ'.length = σ.length
  off : ∀ j, j ∉ T → σ'[j]? = σ[j]?
theorem Fr.refl {T : List Nat} {σ : L2.St} : Fr T σ σ := ⟨rfl, fun _ _ => rfl⟩
theorem Fr.trans {T : List Nat} {σ σ1 σ2 : L2.St} (h : Fr T σ σ1) (h' : Fr T σ1 σ2) : Fr T σ σ2 := ⟨h'.len.trans h.len, fun j hj => (h'.off j hj).trans (h.off j hj)⟩
theorem Fr.put {T : List Nat} {σ : L2.St} {i : Nat} {v : V} (h : i ∈ T) : Fr T σ (σ.set i (some v)) := ⟨List.length_set .., fun j hj => List.getElem?_set_ne fun e => hj (by rw [← e]; exact h)⟩

/-- a block's outcome -/
def OutS (K : PySem.W.Frag) (mg : Str → Option Value) (W : WX) (T : List Nat) (D : Ends) (G0 : Gh) (H0 : Hp) (σ0 : L2.St) : Res Fl → Prop
  | .ok (.nx ρ) μ => ∀ (G : Gh) (H : Hp) (σ : L2.St), Here K G0 H0 G μ H → Rel K G ρ μ σ H → Fr T σ0 σ → D.nx σ H
  | .ok (.bk ρ) μ => ∀ (G : Gh) (H : Hp) (σ : L2.St), Here K G0 H0 G μ H → Rel K G ρ μ σ H → Fr T σ0 σ → D.bk σ H
  | .ok (.ct ρ) μ => ∀ (G : Gh) (H : Hp) (σ : L2.St), Here K G0 H0 G μ H → Rel K G ρ μ σ H → Fr T σ0 σ → D.ct σ H
  | .ok (.rt d) μ => OkP K G0 H0 μ d D.rt
  | .exc c μ => ∀ (G : Gh) (H : Hp) (σ : L2.St), Here K G0 H0 G μ H → Fr T σ0 σ → ∀ C : Addr, mg c = some (.ref C) → W (.ref C) none σ H
  | .bad => False
def TSv (K : PySem.W.Frag) (mg : Str → Option Value) (W : WX) (T : List Nat) (m : Slots → Store → Res Fl) : TS := fun D σ H => ∃ (G : Gh) (ρ : Slots) (μ : Store), Rel K G ρ μ σ H ∧ OutS K mg W T D G H σ (m ρ μ)
theorem PS.weak {X : Cx} {e : Stmt} {t t' : TS} (h : PS X e t) (w : ∀ D σ H, t' D σ H → t D σ H) : PS X e t' := ⟨fun pins s σ H D I hq => h.run pins s σ H D I (w D σ H hq)⟩
theorem PSs.weak {X : Cx} {e : List Stmt} {t t' : TS} (h : PSs X e t) (w : ∀ D σ H, t' D σ H → t D σ H) : PSs X e t' := ⟨fun pins s σ H D I hq => h.run pins s σ H D I (w D σ H hq)⟩
abbrev SS (X : Cx) (W : WX) (T : List Nat) (st : Stmt) (m : Slots → Store → Res Fl) : Prop := PS X st (TSv X.K X.mg W T m)
abbrev SSs (X : Cx) (W : WX) (T : List Nat) (st : List Stmt) (m : Slots → Store → Res Fl) : Prop := PSs X st (TSv X.K X.mg W T m)

section
variable {K : PySem.W.Frag} {mg : Str → Option Value} {W : WX} {T : List Nat} {D D' : Ends} {G0 G : Gh} {H0 H : Hp} {σ0 σ : L2.St} {μ : Store} {r : Res Fl}
theorem OutS.base (h : OutS K mg W T D G0 H0 σ0 r) (x : Here K G0 H0 G μ H) (f : Fr T σ0 σ) : OutS K mg W T D G H σ r := by
  cases r with
  | ok fl μ1 =>
    cases fl with
    | nx ρ => exact fun G' H' σ' h' r' f' => h G' H' σ' (x.go h') r' (f.trans f')
    | bk ρ => exact fun G' H' σ' h' r' f' => h G' H' σ' (x.go h') r' (f.trans f')
    | ct ρ => exact fun G' H' σ' h' r' f' => h G' H' σ' (x.go h') r' (f.trans f')
    | rt d => exact fun G2 H2 v fp h2 r2 n b => h G2 H2 v fp (x.go h2) r2 n fun a z => x.ext.none (b a z)
  | exc c μ1 => exact fun G' H' σ' h' f' => h G' H' σ' (x.go h') (f.trans f')
  | bad => exact h
/-- what an expression gives, then the rest -/
theorem OutS.bind {α : Type} {m : Res α} {f : α → Store → Res Fl} (h : OutS K mg W T D G H σ (m.bind f)) : Out K mg G H (atS W σ) (fun a μ => OutS K mg W T D G H σ (f a μ)) m := by
  cases m with
  | ok a μ => exact h
  | exc c μ => exact fun G' H' x C hC => h G' H' σ x Fr.refl C hC
  | bad => exact h
theorem OutS.fin {m : Res Fl} {f : Slots → Store → Res Fl} (h : OutS K mg W T D G H σ (m.bind fun x μ => match x with | .nx ρ => f ρ μ | x => .ok x μ)) :
    OutS K mg W T { D with nx := fun σ' H' => ∃ (G' : Gh) (ρ : Slots) (μ : Store), Here K G H G' μ H' ∧ Fr T σ σ' ∧ Rel K G' ρ μ σ' H' ∧ OutS K mg W T D G H σ (f ρ μ) } G H σ m := by
  cases m with
  | ok fl μ1 =>
    cases fl with
    | nx ρ => exact fun G' H' σ' h' r' f' => ⟨G', ρ, μ1, h', f', r', h⟩
    | bk ρ => exact h
    | ct ρ => exact h
    | rt d => exact h
  | exc c μ => exact h
  | bad => exact h
end

end Pyf

/-! Pyf, part Q: statements by their forms. -/
namespace Pyf
open PySem PySem.Spec PyProof.Rows L2
open PySem (Str)

theorem nodup_ix {l : List Addr} (n : l.Nodup) {i j : Nat} {a : Addr} (hi : l[i]? = some a) (hj : l[j]? = some a) : i = j := by
  obtain ⟨h1, e1⟩ := List.getElem?_eq_some_iff.mp hi
  obtain ⟨h2, e2⟩ := List.getElem?_eq_some_iff.mp hj
  exact (List.getElem_inj n).mp (e1.trans e2.symm)
theorem bindAll_frz : ∀ (is : List Nat) (ds : List D) (ρ : Slots), bindAll is (frzL ds) ρ = bindAll is ds ρ
  | [], [], _ => rfl
  | [], _ :: _, _ => rfl
  | _ :: _, [], _ => rfl
  | i :: is, d :: ds, ρ => by simp only [frzL, bindAll, bindAll_frz is ds]; rw [frz_frz]
theorem bindT_frz (t : Tn) (d : D) (ρ : Slots) : bindT t (frz d) ρ = bindT t d ρ := by
  cases t with
  | nm i => simp only [bindT]; rw [frz_frz]
  | tp is =>
    cases d with
    | tup ds => exact bindAll_frz is ds ρ
    | _ => rfl
section
variable {X : Cx} {W : WX} {T : List Nat} {st : Stmt} {pos : Pos} {m : Slots → Store → Res D}
theorem ss_nm {i : Nat} {md : Md} (hm : mdOk md = true) (hi : i ∈ T) (h : PS X st (tAsg (TEv X.K X.mg W m) (gName i))) :
    SS X W T st (fun ρ μ => (m ρ μ).bind fun x μ1 => if i < ρ.length then (layD md x μ1).bind fun y μ2 => .ok (.nx (ρ.set i (some y))) μ2 else .bad) :=
  PS.weak h fun D σ H ⟨G, ρ, μ, rel, o⟩ => ⟨G, ρ, μ, rel, o.bind.mono fun d μ1 o1 G1 H1 x fp h1 r1 n1 b1 => by
    split at o1
    · cases hl : layD md d μ1 with
      | bad => rw [hl] at o1; exact o1.elim
      | exc c z => exact absurd hl (nox_lay c z)
      | ok y μ2 =>
        rw [hl] at o1
        obtain ⟨G2, h2, r2, l2⟩ := lay_ok hm h1 r1 n1 b1 hl
        exact o1 G2 H1 _ h2 (((rel.go h1).lay l2 h2.cells).put r2) (Fr.put hi)
    · exact o1.elim⟩
theorem ss_tp {is : List Nat} {md : Md} (hi : ∀ j ∈ is, j ∈ T) (h : PS X st (tAsg (TEv X.K X.mg W m) (TGv X.K (.tp is)))) :
    SS X W T st (fun ρ μ => (m ρ μ).bind fun x μ1 => match md with
      | .deep => (layD .deep x μ1).bind fun y μ2 => match y with
        | .tup ds => Res.ofO ((bindAll is ds ρ).map .nx) μ2
        | _ => .bad
      | _ => match x with | .tup ds => Res.ofO ((bindAll is ds ρ).map .nx) μ1 | _ => .bad) := by
  have plain : SS X W T st (fun ρ μ => (m ρ μ).bind fun x μ1 => match x with | .tup ds => Res.ofO ((bindAll is ds ρ).map .nx) μ1 | _ => .bad) :=
    PS.weak h fun D σ H ⟨G, ρ, μ, rel, o⟩ => ⟨G, ρ, μ, rel, o.bind.mono fun d μ1 o1 G1 H1 x fp h1 r1 n1 b1 => by
      split at o1
      · rename_i ds
        cases hb : bindAll is ds ρ with
        | none => rw [hb] at o1; exact o1.elim
        | some ρ' =>
          rw [hb] at o1
          obtain ⟨G2, h2, r2, _⟩ := h1.settle r1 b1
          have rel2 : Rel X.K G2 ρ μ1 σ H1 := rel.go h2
          exact ⟨G2, ρ, μ1, _, ρ', rel2, r2, by rw [bindT_frz]; exact hb, fun σ' rel' hl hoff => o1 G2 H1 σ' h2 rel' ⟨hl, fun j hj => hoff j fun z => hj (hi j z)⟩⟩
      · exact o1.elim⟩
  cases md with
  | frz => exact plain
  | own => exact plain
  | deep =>
    exact PS.weak h fun D σ H ⟨G, ρ, μ, rel, o⟩ => ⟨G, ρ, μ, rel, o.bind.mono fun d μ1 o1 G1 H1 x fp h1 r1 n1 b1 => by
      cases hl : layD .deep d μ1 with
      | bad => rw [hl] at o1; exact o1.elim
      | exc c z => exact absurd hl (nox_lay c z)
      | ok y μ2 =>
        rw [hl] at o1
        obtain ⟨G2, h2, r2, l2⟩ := lay_ok (m := .deep) rfl h1 r1 n1 b1 hl
        have rel2 := (rel.go h1).lay l2 h2.cells
        simp only [Res.bind_ok] at o1
        split at o1
        · rename_i ds
          cases hb : bindAll is ds ρ with
          | none => rw [hb] at o1; exact o1.elim
          | some ρ' =>
            rw [hb] at o1
            exact ⟨G2, ρ, μ2, _, ρ', rel2, r2, hb, fun σ' rel' hl hoff => o1 G2 H1 σ' h2 rel' ⟨hl, fun j hj => hoff j fun z => hj (hi j z)⟩⟩
        · exact o1.elim⟩
theorem fr_all : ∀ (ts : List (Nat × Md)) (vs : List V) (σ : L2.St), (∀ p ∈ ts, p.1 ∈ T) → Fr T σ (putAll ts vs σ)
  | [], _, _, _ => Fr.refl
  | _ :: _, [], _, _ => Fr.refl
  | (i, m) :: ts, v :: vs, σ, hp => (Fr.put (hp (i, m) List.mem_cons_self)).trans (fr_all ts vs _ fun q hq => hp q (List.mem_cons_of_mem _ hq))
theorem ss_par {ts : List (Nat × Md)} {ma : Slots → Store → Res (List D)} {t : TS} (hm : ts.all (fun p => mdOk p.2) = true) (hi : ∀ p ∈ ts, p.1 ∈ T) (h : PS X st t)
    (ht : ∀ D σ H, TAv X.K X.mg W ma σ H (fun vs H1 => vs.length = ts.length ∧ D.nx (putAll ts vs σ) H1 ∧ ∀ p, H1 p = none → D.nx (putAll ts vs σ) (upd H1 p (.tup vs))) → t D σ H) :
    SS X W T st (fun ρ μ => (ma ρ μ).bind fun xs μ1 => (layAll ts xs ρ μ1).fl) :=
  PS.weak h fun D σ H ⟨G, ρ, μ, rel, o⟩ => ht D σ H ⟨G, ρ, μ, rel, o.bind.mono fun ds μ1 o1 G1 H1 vs fp h1 r1 n1 b1 => by
    cases hl : layAll ts ds ρ μ1 with
    | bad => rw [hl] at o1; exact o1.elim
    | exc c z => exact absurd hl (nox_layAll c z)
    | ok ρ' μ2 =>
      rw [hl] at o1
      obtain ⟨G2, h2, r2, e2⟩ := layAll_ok hm h1 (rel.go h1) r1 n1 b1 hl
      exact ⟨e2.symm, o1 G2 H1 _ h2 r2 (fr_all ts vs σ hi), fun p hp => o1 G2 _ _ (h2.new hp) (r2.ext (ext_new G2 hp) (h2.new hp).cells) (fr_all ts vs σ hi)⟩⟩
theorem ss_set {e o i : E} {pe po pi : Expr} {p2 : Pos} (he : SE X W pe (ev e).e) (ho : SE X W po (ev o).e) (hi : SE X W pi (ev i).e) (hp : plainIx pi = true) (hs : swapsWithSole [.Subscript po pi p2] pe pos.line X.env = pure false) (hw : swappedStores [.Subscript po pi p2] pe X.env = pure none) :
    SS X W T (.Assign [.Subscript po pi p2] pe pos) (exS (.set o i e)) := by
  refine PS.weak (ps_asg he (pg_sub (pos := p2) ho hi setOk (by cases pi <;> first | (intro _; rfl) | (cases hp; done))) hs hw) fun D σ H ⟨G, ρ, μ, rel, o⟩ => ?_
  simp only [exS] at o
  refine ⟨G, ρ, μ, rel, o.bind.mono fun d μ1 o1 G1 H1 x fp h1 r1 n1 b1 => ?_⟩
  refine ⟨G1, ρ, μ1, rel.go h1, o1.bind.base h1 fun d2 μ2 o2 G2 H2 y fp2 h2 r2 n2 b2 => ?_⟩
  refine ⟨G2, ρ, μ2, (rel.go h1).go h2, o2.bind.base (h1.go h2) fun d3 μ3 o3 G3 H3 z fp3 h3 r3 n3 b3 => ?_⟩
  have hh := (h1.go h2).go h3
  cases hd : setD μ3 d2 d3 d with
  | bad => rw [hd] at o3; exact o3.elim
  | exc c w => exact absurd hd (nox_setD _ _ _ _ c w)
  | ok u μ4 =>
    rw [hd] at o3
    exact ⟨G, H, G3, μ3, d2, d3, d, fp, fp2, fp3, hh, (r1.mono h2.ext).mono h3.ext, r2.mono h3.ext, r3, b1, μ4, hd, fun G' H' h' => o3 G' H' σ h' (rel.go h') Fr.refl⟩

theorem sw2_none {a b a' b' : Expr} {p p' : Pos} {k : Nat} {q : Pos} {pe : Expr} {env : Env} : swappedStores [.Tuple [.Subscript a b p, .Subscript a' b' p'] k q] pe env = pure none := by
  cases pe <;> try rfl
  unfold swappedStores
  simp only [List.filterMap_cons, List.filterMap_nil, List.length_nil, List.length_cons]
  split
  · rfl
  · split
    · rfl
    · rfl
theorem ss_set2 {e o i o' i' : E} {pe po pi po' pi' : Expr} {p2 p3 p4 : Pos} {kt : Nat} (hc : X.calm = true) (he : SE X W pe (ev e).e) (ho : SE X W po (ev o).e) (hi : SE X W pi (ev i).e) (ho' : SE X W po' (ev o').e) (hi' : SE X W pi' (ev i').e) (hp : plainIx pi = true) (hp' : plainIx pi' = true)
    (hs : swapsWithSole [.Tuple [.Subscript po pi p2, .Subscript po' pi' p3] kt p4] pe pos.line X.env = pure false) :
    SS X W T (.Assign [.Tuple [.Subscript po pi p2, .Subscript po' pi' p3] kt p4] pe pos) (exS (.set2 o i o' i' e)) := by
  refine PS.weak (ps_asg he (pg_tup (n := 2) hc (pgs_cons (pg_sub (pos := p2) ho hi setOk (by cases pi <;> first | (intro _; rfl) | (cases hp; done))) (pgs_cons (pg_sub (pos := p3) ho' hi' setOk (by cases pi' <;> first | (intro _; rfl) | (cases hp'; done))) pgs_nil))) hs sw2_none) fun D σ H ⟨G, ρ, μ, rel, o0⟩ => ?_
  simp only [exS] at o0
  refine ⟨G, ρ, μ, rel, o0.bind.mono fun d μ1 o1 G1 H1 x fp h1 r1 n1 b1 => ?_⟩
  split at o1
  · rename_i a b
    obtain ⟨Gs, hs1, rs, _⟩ := h1.settle r1 b1
    obtain ⟨ta, vs, rfl, hF, rr⟩ := Rep.fp_tup (show Rep X.K Gs.F H1 Gs.as x (.tup [frz a, frz b]) [] from rs)
    cases vs with
    | nil => have := rr.length; simp at this
    | cons v vs =>
    obtain ⟨ra, rr'⟩ := RepL.nil_of rr
    cases vs with
    | nil => have := rr'.length; simp at this
    | cons v' vs =>
    obtain ⟨rb, rr''⟩ := RepL.nil_of rr'
    cases vs with
    | cons _ _ => have := rr''.length; simp at this
    | nil =>
    refine ⟨ta, [v, v'], rfl, SqT.of (hs1.cells.same _ _ hF), rfl, v, [v'], rfl, ?_⟩
    refine ⟨Gs, ρ, μ1, rel.go hs1, o1.bind.base hs1 fun d2 μ2 o2 G2 H2 y fp2 h2 r2 n2 b2 => ?_⟩
    refine ⟨G2, ρ, μ2, (rel.go hs1).go h2, o2.bind.base (hs1.go h2) fun d3 μ3 o3 G3 H3 z fp3 h3 r3 n3 b3 => ?_⟩
    have hh := (hs1.go h2).go h3
    cases hd : setD μ3 d2 d3 a with
    | bad => rw [hd] at o3; exact o3.elim
    | exc c w => exact absurd hd (nox_setD _ _ _ _ c w)
    | ok u μ4 =>
      rw [hd] at o3
      simp only [Res.bind_ok] at o3
      have hd' : setD μ3 d2 d3 (frz a) = .ok u μ4 := by rw [← hd]; unfold setD; rw [frz_frz]
      refine ⟨Gs, H1, G3, μ3, d2, d3, frz a, [], fp2, fp3, h2.go h3, (ra.mono h2.ext).mono h3.ext, r2.mono h3.ext, r3, by simp, μ4, hd', fun G4 H4 h4 => ?_⟩
      have hs4 := hs1.go h4
      refine ⟨v', [], rfl, ?_⟩
      refine ⟨G4, ρ, μ4, rel.go hs4, o3.bind.base hs4 fun d5 μ5 o5 G5 H5 y' fp5 h5 r5 n5 b5 => ?_⟩
      refine ⟨G5, ρ, μ5, (rel.go hs4).go h5, o5.bind.base (hs4.go h5) fun d6 μ6 o6 G6 H6 z' fp6 h6 r6 n6 b6 => ?_⟩
      cases hd2 : setD μ6 d5 d6 b with
      | bad => rw [hd2] at o6; exact o6.elim
      | exc c w => exact absurd hd2 (nox_setD _ _ _ _ c w)
      | ok u μ7 =>
        rw [hd2] at o6
        simp only [Res.bind_ok] at o6
        have hd2' : setD μ6 d5 d6 (frz b) = .ok u μ7 := by rw [← hd2]; unfold setD; rw [frz_frz]
        refine ⟨G4, H4, G6, μ6, d5, d6, frz b, [], fp5, fp6, h5.go h6, ((rb.mono h4.ext).mono h5.ext).mono h6.ext, r5.mono h6.ext, r6, by simp, μ7, hd2', fun G7 H7 h7 => ?_⟩
        exact ⟨rfl, o6 G7 H7 σ (hs4.go h7) (rel.go (hs4.go h7)) Fr.refl⟩
  · exact o1.elim

/-! ### name op= e -/
def augOk : Op → Bool
  | .add => true | .sub => true | .mul => true | _ => false
def rAug (o : Op) : TIp := fun x y H Q => ∃ i j k : Int, x = .int i ∧ y = .int j ∧ binD o (.int i) (.int j) [] = .ok (.int k) [] ∧ Q (.int k) H
theorem binD_int {o : Op} (ho : augOk o = true) {i j : Int} {μ μ' : Store} {d : D} (e : binD o (.int i) (.int j) μ = .ok d μ') : ∃ k, d = .int k ∧ μ' = μ ∧ binD o (.int i) (.int j) [] = .ok (.int k) [] := by
  cases o with
  | add => cases e; exact ⟨_, rfl, rfl, rfl⟩
  | sub => cases e; exact ⟨_, rfl, rfl, rfl⟩
  | mul =>
    simp only [binD] at e ⊢
    split at e
    · rename_i hm; cases e; exact ⟨_, rfl, rfl, by rw [if_pos hm]⟩
    · cases e
  | _ => cases ho
theorem ipAug {X : Cx} {o : Op} (ho : augOk o = true) : PIp X (opOf o) (rAug o) := by
  intro pins s σ H x y v u Q I rx ry ⟨i, j, k, e1, e2, e, q⟩
  subst e1; subst e2
  obtain ⟨t, rfl⟩ := rx
  obtain ⟨t', rfl⟩ := ry
  cases o with
  | add => cases e; exact iadd_int ⟨.int _, H, I.tok _, ⟨_, rfl⟩, q⟩
  | sub => cases e; exact isub_int ⟨.int _, H, I.tok _, ⟨_, rfl⟩, q⟩
  | mul =>
    simp only [binD] at e
    obtain ⟨hl, e⟩ := ok_bad e
    cases e
    unfold mulOk at hl
    have hl' := of_decide_eq_true hl
    exact imul_int ⟨.int _, H, I.tok _, ⟨_, rfl⟩, q⟩ (CMulX.ok (by show (_ : Int) ≤ _; omega))
  | _ => cases ho
theorem nox_binS {o : Op} {x y : D} {μ : Store} : NoX (binD o x y μ) := nox_binD o x y μ
theorem ss_aug {i : Nat} {x : Str} {o : Op} {e : E} {pe : Expr} {p2 : Pos} (ho : augOk o = true) (hN : X.N.Nodup) (hx : X.N[i]? = some x) (hl : L2.Loc X.env.scope x) (hf : X.fn x = true ∨ X.env.scope.names.lookup x = some .local) (hi : i ∈ T) (he : SE X W pe (ev e).e) :
    SS X W T (.AugAssign (.Name x p2) (opOf o) pe pos) (exS (.aug i o e)) := by
  refine PS.weak (ps_aug hN hx hl he (ipAug ho) hf) fun D σ H ⟨G, ρ, μ, rel, o'⟩ => ?_
  simp only [exS] at o'
  split at o'
  · rename_i k hk
    obtain ⟨v, hv, rv⟩ := rel.env i _ hk
    cases rv
    refine ⟨.int k, hv, G, ρ, μ, rel, o'.bind.mono fun d μ1 o1 G1 H1 y fp h1 r1 n1 b1 => ?_⟩
    split at o1
    · rename_i j
      cases r1
      cases hb : binD o (.int k) (.int j) μ1 with
      | bad => rw [hb] at o1; exact o1.elim
      | exc c w => exact absurd hb (nox_binS c w)
      | ok d μ2 =>
        rw [hb] at o1
        obtain ⟨l, rfl, rfl, e⟩ := binD_int ho hb
        exact ⟨k, j, l, rfl, rfl, e, o1 G1 H1 _ h1 ((rel.go h1).put (.int l)) (Fr.put hi)⟩
    · exact o1.elim
  · exact o'.elim
def rGet (K : PySem.W.Frag) : V → V → Hp → VK → Prop := fun o i H Q => ∃ (a : Addr) (vs : List V) (k : Int) (x : V), o = .ref a ∧ i = .int k ∧ H a = some (.lst vs) ∧ 0 ≤ k ∧ k < 2 ^ 63 ∧ vs[k.toNat]? = some x ∧ Q x H
theorem pgAug {X : Cx} : PGet X (rGet X.K) := by
  intro pins s σ H o i ov iv Q I ro ri ⟨a, vs, k, x, e1, e2, hH, h0, h1, hx, q⟩
  subst e1; subst e2
  obtain rfl : ov = Value.ref a := ro
  obtain ⟨t, rfl⟩ := (show ∃ t, iv = Value.int k t from ri)
  obtain ⟨its, r, pl, hz⟩ := I.list (.inl (.inl hH))
  obtain ⟨w, ew, rw'⟩ := r.get hx
  exact getItem_listL pl.isList h0 h1 ew ⟨x, H, I, rw', q⟩
theorem nox_augG {μ : Store} {o i : D} : NoX (augG μ o i) := by
  unfold augG
  (repeat' split) <;> first | exact nox_ok _ _ | exact nox_bad
theorem ss_augs {o i e : E} {po pi pe : Expr} {op : Op} {p2 : Pos} (hop : augOk op = true) (hp : plainIx pi = true) (ho : SE X W po (ev o).e) (hi : SE X W pi (ev i).e) (he : SE X W pe (ev e).e) :
    SS X W T (.AugAssign (.Subscript po pi p2) (opOf op) pe pos) (exS (.augs o i op e)) := by
  refine PS.weak (ps_augS (tpos := p2) ho hi pgAug he (ipAug hop) setOk (by cases pi <;> first | (intro _ _ _; rfl) | (cases hp; done))) fun D σ H ⟨G, ρ, μ, rel, o0⟩ => ?_
  simp only [exS] at o0
  refine ⟨G, ρ, μ, rel, o0.bind.mono fun d1 μ1 o1 G1 H1 x fp1 h1 r1 n1 b1 => ?_⟩
  refine ⟨G1, ρ, μ1, rel.go h1, o1.bind.base h1 fun d2 μ2 o2 G2 H2 y fp2 h2 r2 n2 b2 => ?_⟩
  have hh := h1.go h2
  cases ha : augG μ2 d1 d2 with
  | bad => rw [ha] at o2; exact o2.elim
  | exc c w => exact absurd ha (nox_augG c w)
  | ok k μ3 =>
    rw [ha] at o2
    simp only [Res.bind_ok] at o2
    unfold augG at ha
    split at ha
    · rename_i kk ys ix hc
      split at ha
      · rename_i hsm
        rw [Bool.and_eq_true] at hsm
        have hs1 := small62_ok hsm.1
        have hs2 := of_decide_eq_true hsm.2
        split at ha
        · rename_i yv hyv
          cases ha
          obtain ⟨a, vs, rfl, hk, hy, hv, rv, _, _⟩ := cell_of hh (r1.mono h2.ext) hc
          cases r2
          obtain ⟨w, hw, rw'⟩ := rv.get0 hyv
          refine ⟨a, vs, ix, w, rfl, rfl, hv, hs2, by omega, hw, ?_⟩
          refine ⟨G2, ρ, μ2, (rel.go h1).go h2, o2.bind.base hh fun d4 μ4 o4 G4 H4 z fp4 h4 r4 n4 b4 => ?_⟩
          split at o4
          · rename_i k' j
            cases rw'
            cases r4
            cases hb : binD op (.int k') (.int j) μ4 with
            | bad => rw [hb] at o4; exact o4.elim
            | exc c w => exact absurd hb (nox_binS c w)
            | ok d μ5 =>
              rw [hb] at o4
              obtain ⟨l, rfl, rfl, e⟩ := binD_int hop hb
              refine ⟨k', j, l, rfl, rfl, e, ?_⟩
              simp only [Res.bind_ok] at o4
              cases hd : setD μ5 d1 (.int ix) (.int l) with
              | bad => rw [hd] at o4; exact o4.elim
              | exc c w => exact absurd hd (nox_setD _ _ _ _ c w)
              | ok u μ6 =>
                rw [hd] at o4
                exact ⟨G, H, G4, μ5, d1, .int ix, .int l, [], _, [], hh.go h4, .int l, (r1.mono h2.ext).mono h4.ext, .int ix, by simp, μ6, hd, fun G' H' h' => o4 G' H' σ h' (rel.go h') Fr.refl⟩
          · exact o4.elim
        · cases ha
      · cases ha
    · cases ha
theorem ss_ex {e : E} {pe : Expr} (he : SE X W pe (ev e).e) (hs : swapsWith pe none pos.line X.env = pure false) : SS X W T (.Expr pe pos) (exS (.ex e)) :=
  PS.weak (ps_expr he hs) fun D σ H ⟨G, ρ, μ, rel, o⟩ => by
    simp only [exS] at o
    exact ⟨G, ρ, μ, rel, o.bind.mono fun d μ1 o1 G1 H1 x fp h1 r1 n1 b1 => o1 G1 H1 σ h1 (rel.go h1) Fr.refl⟩
theorem ss_if {c : E} {a b : Ss} {pc : Expr} {as bs : List Stmt} (hc : ST X W pc (ev c).t) (ha : SSs X W T as (exSs a)) (hb : SSs X W T bs (exSs b)) : SS X W T (.If pc as bs pos) (exS (.ifs c a b)) :=
  PS.weak (ps_if hc ha hb) fun D σ H ⟨G, ρ, μ, rel, o⟩ => by
    simp only [exS] at o
    refine ⟨G, ρ, μ, rel, o.bind.mono fun t μ1 o1 G1 H1 h1 => ?_⟩
    cases t with
    | true => exact ⟨G1, ρ, μ1, rel.go h1, o1.base h1 Fr.refl⟩
    | false => exact ⟨G1, ρ, μ1, rel.go h1, o1.base h1 Fr.refl⟩
theorem ss_ret {e : E} {pe : Expr} (he : SE X W pe (ev e).e) : SS X W T (.Return (some pe) pos) (exS (.ret e)) :=
  PS.weak (ps_ret he) fun D σ H ⟨G, ρ, μ, rel, o⟩ => by
    simp only [exS] at o
    exact ⟨G, ρ, μ, rel, o.bind.mono fun d μ1 o1 => o1⟩
theorem ss_retN : SS X W T (.Return none pos) (exS .retN) :=
  PS.weak ps_retN fun D σ H ⟨G, ρ, μ, rel, o⟩ => OkP.now o rel.here .non
theorem ss_brk : SS X W T (.Break pos) (exS .brk) := PS.weak ps_break fun D σ H ⟨G, ρ, μ, rel, o⟩ => o G H σ rel.here rel Fr.refl
theorem ss_cnt : SS X W T (.Continue pos) (exS .cnt) := PS.weak ps_continue fun D σ H ⟨G, ρ, μ, rel, o⟩ => o G H σ rel.here rel Fr.refl
theorem ss_pas : SS X W T (.Pass pos) (exS .pas) := PS.weak ps_pass fun D σ H ⟨G, ρ, μ, rel, o⟩ => o G H σ rel.here rel Fr.refl
theorem ss_doc {x : Str} {j : Nat} {p : Pos} : SS X W T (.Expr (.Constant (.str x) j p) pos) (exS .pas) := PS.weak ps_doc fun D σ H ⟨G, ρ, μ, rel, o⟩ => o G H σ rel.here rel Fr.refl
theorem ss_never {st : Stmt} : SS X W T st (exS .never) := PS.weak ps_never fun D σ H ⟨G, ρ, μ, rel, o⟩ => o
theorem sss_nil : SSs X W T [] (exSs .nil) := PSs.weak pss_nil fun D σ H ⟨G, ρ, μ, rel, o⟩ => o G H σ rel.here rel Fr.refl
theorem sss_cons {s : S} {ss : Ss} {st : Stmt} {sts : List Stmt} (h : SS X W T st (exS s)) (hr : SSs X W T sts (exSs ss)) : SSs X W T (st :: sts) (exSs (.cons s ss)) :=
  PSs.weak (pss_cons h hr) fun D σ H ⟨G, ρ, μ, rel, o⟩ => by
    simp only [exSs] at o
    refine ⟨G, ρ, μ, rel, ?_⟩
    cases hm : exS s ρ μ with
    | bad => rw [hm] at o; exact o
    | exc c μ1 => rw [hm] at o; exact o
    | ok fl μ1 =>
      rw [hm] at o
      cases fl with
      | nx ρ' => exact fun G' H' σ' h' r' f' => ⟨G', ρ', μ1, r', OutS.base o h' f'⟩
      | bk ρ' => exact o
      | ct ρ' => exact o
      | rt d => exact o

/-! ### loops -/
def turnR : Res Fl → Res Fl
  | .ok (.bk ρ) μ => .ok (.nx ρ) μ
  | r => r
def again : Res Fl → Bool
  | .ok (.nx _) _ => true
  | .ok (.ct _) _ => true
  | _ => false
theorem OutS.turn {K : PySem.W.Frag} {mg : Str → Option Value} {T : List Nat} {D : Ends} {N : L2.St → Hp → Prop} {G0 : Gh} {H0 : Hp} {σ0 : L2.St} {r : Res Fl}
    (hn : ∀ ρ μ, r = .ok (.nx ρ) μ ∨ r = .ok (.ct ρ) μ → ∀ (G : Gh) (H : Hp) (σ : L2.St), Here K G0 H0 G μ H → Rel K G ρ μ σ H → Fr T σ0 σ → N σ H)
    (ho : again r = true ∨ OutS K mg W T D G0 H0 σ0 (turnR r)) :
    OutS K mg W T { D with nx := N, ct := N, bk := D.nx } G0 H0 σ0 r := by
  cases r with
  | ok fl μ =>
    cases fl with
    | nx ρ => exact hn ρ μ (.inl rfl)
    | ct ρ => exact hn ρ μ (.inr rfl)
    | bk ρ => rcases ho with ho | ho; cases ho; exact ho
    | rt d => rcases ho with ho | ho; cases ho; exact ho
  | exc c μ => rcases ho with ho | ho; cases ho; exact ho
  | bad => rcases ho with ho | ho; cases ho; exact ho
theorem ss_for {t : Tn} {it : I} {b : Ss} {tg iter : Expr} {bs : List Stmt} (hp : PassesOwn (model X.prog X.w) X.A X.env X.xe) (hc : X.calm = true) (hi : SI X W tg iter (evI it)) (hg : PG X tg (TGv X.K t)) (hn : notSet iter = true) (ht : ∀ j ∈ t.ix, j ∈ T) (hb : SSs X W T bs (exSs b)) :
    SS X W T (.For tg iter bs [] pos) (exS (.frs t it b)) := by
  refine PS.weak (ps_for hp hc hi hg hb (by cases iter <;> first | (intro _; rfl) | cases hn)) fun D σ H ⟨G, ρ, μ, rel, o⟩ => ?_
  simp only [exS] at o
  refine ⟨G, ρ, μ, rel, o.bind.mono fun J μ1 o1 G1 H1 j h1 yl => ?_⟩
  generalize hr : forS t (exSs b) J.lv J.ds ρ μ1 = r0 at o1
  refine ⟨fun i m σ2 H2 => ∃ (G2 : Gh) (ρ2 : Slots) (μ2 : Store), m = J.ds.length - i ∧ i ≤ J.ds.length ∧ Here X.K G1 H1 G2 μ2 H2 ∧ Fr T σ σ2 ∧ Rel X.K G2 ρ2 μ2 σ2 H2 ∧ forS t (exSs b) J.lv (J.ds.drop i) ρ2 μ2 = r0, ⟨J.ds.length, G1, ρ, μ1, by simp, Nat.zero_le _, Here.start h1.cells, Fr.refl, rel.go h1, by simpa using hr⟩, ?_⟩
  rintro i m σ2 H2 ⟨G2, ρ2, μ2, rfl, hi, h2, f2, rel2, e2⟩
  by_cases hlt : i < J.ds.length
  · right
    have hd : J.ds.drop i = J.ds[i] :: J.ds.drop (i + 1) := (List.drop_eq_getElem_cons hlt)
    rw [hd] at e2
    generalize hx : J.ds[i] = d at e2
    have hxi : J.ds[i]? = some d := by rw [List.getElem?_eq_getElem hlt, hx]
    simp only [forS] at e2
    split at e2
    rotate_left
    · subst e2; exact o1.elim
    rename_i lv
    obtain ⟨y1, _, y3⟩ := yl i G2 μ2 H2 h2 lv
    refine ⟨y1 hlt, fun σ' H' => ∃ (G3 : Gh) (ρ3 : Slots) (μ3 : Store), Here X.K G1 H1 G3 μ3 H' ∧ Fr T σ σ' ∧ Rel X.K G3 ρ3 μ3 σ' H' ∧ forS t (exSs b) J.lv (J.ds.drop (i + 1)) ρ3 μ3 = r0, fun σ' H' ⟨G3, ρ3, μ3, q1, q2, q3, q4⟩ => ⟨J.ds.length - (i + 1), by omega, G3, ρ3, μ3, rfl, hlt, q1, q2, q3, q4⟩, ?_⟩
    intro x H' hy
    obtain ⟨fx, hh, rx, nx, bx⟩ := y3 d hxi x H' hy
    split at e2
    · subst e2; exact o1.elim
    rename_i ρ' hbd
    obtain ⟨G3, h3, r3, _⟩ := hh.settle rx bx
    refine ⟨G3, ρ2, μ2, frz d, ρ', rel2.go h3, r3, by rw [bindT_frz]; exact hbd, fun σ' rel' hl' hoff => ?_⟩
    have f3 : Fr T σ2 σ' := ⟨hl', fun j hj => hoff j fun z => hj (ht j z)⟩
    have hh3 := h2.go h3
    refine ⟨G3, ρ', μ2, rel', OutS.turn (fun ρ4 μ4 h4 G4 H4 σ4 hh4 rel4 f4 => ⟨G4, ρ4, μ4, hh3.go hh4, (f2.trans f3).trans f4, rel4, ?_⟩) ?_⟩
    · rcases h4 with h4 | h4 <;> (rw [h4] at e2; exact e2)
    · cases hb : exSs b ρ' μ2 with
      | bad => rw [hb] at e2; subst e2; exact o1.elim
      | exc c μ4 => rw [hb] at e2; subst e2; exact .inr (OutS.base o1 (h1.go hh3) (f2.trans f3))
      | ok fl μ4 =>
        rw [hb] at e2
        cases fl with
        | nx ρ4 => exact .inl rfl
        | ct ρ4 => exact .inl rfl
        | bk ρ4 => subst e2; exact .inr (OutS.base o1 (h1.go hh3) (f2.trans f3))
        | rt d => subst e2; exact .inr (OutS.base o1 (h1.go hh3) (f2.trans f3))
  · left
    have e : i = J.ds.length := by omega
    subst e
    rw [List.drop_length] at e2
    simp only [forS] at e2
    split at e2
    rotate_left
    · subst e2; exact o1.elim
    rename_i lv
    subst e2
    exact ⟨(yl J.ds.length G2 μ2 H2 h2 lv).2.1 (Nat.le_refl _), o1 G2 H2 σ2 (h1.go h2) rel2 f2⟩
theorem ss_whl {c : E} {b : Ss} {pc : Expr} {bs : List Stmt} (hp : PassesOwn (model X.prog X.w) X.A X.env X.xe) (hc : ST X W pc (ev c).t) (hb : SSs X W T bs (exSs b)) : SS X W T (.While pc bs [] pos) (exS (.whl c b)) := by
  refine PS.weak (ps_while hp hc hb) fun D σ H ⟨G, ρ, μ, rel, o⟩ => ?_
  simp only [exS, whileS] at o
  split at o
  rotate_left
  · exact o.elim
  rename_i hex
  generalize hr : hex.choose_spec.choose = r0 at o
  have hn : whileN (ev c).t (exSs b) hex.choose ρ μ = some r0 := by rw [← hr]; exact hex.choose_spec.choose_spec
  generalize hex.choose = n0 at hn
  clear hr
  refine ⟨fun m σ2 H2 => ∃ (G2 : Gh) (ρ2 : Slots) (μ2 : Store), Here X.K G H G2 μ2 H2 ∧ Fr T σ σ2 ∧ Rel X.K G2 ρ2 μ2 σ2 H2 ∧ whileN (ev c).t (exSs b) m ρ2 μ2 = some r0, ⟨n0, G, ρ, μ, rel.here, Fr.refl, rel, hn⟩, ?_⟩
  rintro m σ2 H2 ⟨G2, ρ2, μ2, h2, f2, rel2, e2⟩
  cases m with
  | zero => cases e2
  | succ m =>
    simp only [whileN] at e2
    cases ht : (ev c).t ρ2 μ2 with
    | bad => rw [ht] at e2; cases e2; exact o.elim
    | exc cc μ3 =>
      rw [ht] at e2; cases e2
      exact ⟨G2, ρ2, μ2, rel2, by rw [ht]; exact fun G' H' x C hC => OutS.base o h2 f2 G' H' σ2 x Fr.refl C hC⟩
    | ok t μ3 =>
      rw [ht] at e2
      refine ⟨G2, ρ2, μ2, rel2, OutOk ht fun G3 H3 h3 => ?_⟩
      cases t with
      | false =>
        cases e2
        exact o G3 H3 σ2 (h2.go h3) (rel2.go h3) f2
      | true =>
        refine ⟨fun σ' H' => ∃ (G3 : Gh) (ρ3 : Slots) (μ3 : Store), Here X.K G H G3 μ3 H' ∧ Fr T σ σ' ∧ Rel X.K G3 ρ3 μ3 σ' H' ∧ whileN (ev c).t (exSs b) m ρ3 μ3 = some r0, fun σ' H' q => ⟨m, Nat.lt_succ_self _, q⟩, G3, ρ2, μ3, rel2.go h3, ?_⟩
        refine OutS.turn (fun ρ4 μ4 h4 G4 H4 σ4 hh4 rel4 f4 => ⟨G4, ρ4, μ4, (h2.go h3).go hh4, f2.trans f4, rel4, ?_⟩) ?_
        · rcases h4 with h4 | h4 <;> (simp only [h4] at e2; exact e2)
        · cases hb : exSs b ρ2 μ3 with
          | bad => simp only [hb] at e2; cases e2; exact o.elim
          | exc c μ4 => simp only [hb] at e2; cases e2; exact .inr (OutS.base o (h2.go h3) f2)
          | ok fl μ4 =>
            simp only [hb] at e2
            cases fl with
            | nx ρ4 => exact .inl rfl
            | ct ρ4 => exact .inl rfl
            | bk ρ4 => cases e2; exact .inr (OutS.base o (h2.go h3) f2)
            | rt d => cases e2; exact .inr (OutS.base o (h2.go h3) f2)

/-! ### a list that will not change any more -/
theorem sss_fz {i : Nat} {ss : Ss} {sts : List Stmt} (hr : SSs X W T sts (exSs ss)) : SSs X W T sts (exSs (.cons (.fz i) ss)) :=
  PSs.weak hr fun D σ H ⟨G, ρ, μ, rel, o⟩ => by
    simp only [exSs, exS] at o
    split at o
    rotate_left
    · exact o.elim
    rename_i k hk
    split at o
    rotate_left
    · exact o.elim
    rename_i xs hx
    obtain ⟨v, hv, rv⟩ := rel.env i _ hk
    cases rv with
    | ptr ha =>
      rename_i a
      obtain ⟨hF, vs, hH, r⟩ := rel.cells.lst k a xs ha hx
      have hS : ∀ b ∈ [a], G.F b = none := by simpa using hF
      have cells : Cells X.K ⟨Pyf.froz G.F H [a], G.as⟩ (μ.set k .dead) H := by
        refine ⟨froz_le rel.cells.same, by rw [List.length_set]; exact rel.cells.len, rel.cells.nd, rel.cells.there, fun j b ds h1 h2 => ?_⟩
        by_cases hjk : j = k
        · subst hjk
          rw [List.getElem?_set_self (List.getElem?_eq_some_iff.mp hx).1] at h2
          cases h2
        · rw [List.getElem?_set_ne (fun e => hjk e.symm)] at h2
          obtain ⟨q1, ws, q2, q3⟩ := rel.cells.lst j b ds h1 h2
          refine ⟨?_, ws, q2, q3.set (froz_same hS) (fun _ _ z => z) rfl⟩
          show Pyf.froz G.F H [a] b = none
          rw [froz_out]; exact q1
          intro hb
          rw [List.mem_singleton] at hb
          subst hb
          exact hjk (nodup_ix rel.cells.nd h1 ha)
      have hh : Here X.K G H ⟨Pyf.froz G.F H [a], G.as⟩ (μ.set k .dead) H := by
        refine ⟨⟨froz_same hS, ⟨[], by simp, by simp⟩, fun b ob hb _ => hb, fun b ob hb hf hn => ?_, fun b ob hb => ⟨ob, hb⟩⟩, cells⟩
        show Pyf.froz G.F H [a] b = none
        rw [froz_out fun z => hn (by rw [List.mem_singleton] at z; rw [z]; exact List.mem_of_getElem? ha)]
        exact hf
      refine ⟨_, ρ.set i (some (.lst xs)), μ.set k .dead, ⟨cells, by rw [List.length_set]; exact rel.len, fun j d hj => ?_⟩, OutS.base o hh Fr.refl⟩
      by_cases hij : i = j
      · subst hij
        rw [List.getElem?_set_self (List.getElem?_eq_some_iff.mp hk).1] at hj
        cases hj
        exact ⟨_, hv, .lst (by show Pyf.froz G.F H [a] a = _; rw [froz_in (by simp)]; exact hH) (r.set (froz_same hS) (fun _ _ z => z) rfl)⟩
      · rw [List.getElem?_set_ne hij] at hj
        obtain ⟨w, h1, h2⟩ := rel.env j d hj
        exact ⟨w, h1, h2.set (froz_same hS) (fun _ _ z => z) rfl⟩
end
end Pyf

/-! Pyf, part R: blocks are read aright. -/
namespace Pyf
open PySem PySem.Spec PyProof.Rows L2
open PySem (Str)

def notComp : Expr → Bool
  | .ListComp _ _ _ _ => false
  | .SetComp _ _ _ _ => false
  | .DictComp _ _ _ _ _ => false
  | _ => true
theorem sw_plain {pe : Expr} {t : Option Expr} {l : Nat} {env : Env} (h : notComp pe = true) : swapsWith pe t l env = pure false := by
  cases pe <;> first | rfl | cases h
theorem sw_sole {pe t : Expr} {l : Nat} {env : Env} (h : notComp pe = true) : swapsWithSole [t] pe l env = pure false := sw_plain (t := some t) h
/-- name = [..] with the list in the name's own place -/
def swB (sc : Scope) (x : Str) (px : Pos) : Expr → Bool
  | .ListComp _ _ scope p => decide (sc.names.lookup x = some .local) && px.line == p.line && !(scope.names.any fun q => q.1 == x && (q.2 == .local || q.2 == .cell))
  | _ => false
theorem sw_lc {env : Env} {x : Str} {px pos : Pos} {elt : Expr} {gs : List Comprehension} {scope : Scope} {l : Nat} (hk : env.scope.kind = .function) : swapsWith (.ListComp elt gs scope pos) (some (.Name x px)) l env = pure (swB env.scope x px (.ListComp elt gs scope pos)) := by
  have hb : (env.blockKind == ScopeKind.function) = true := by unfold Env.blockKind; rw [hk]; rfl
  unfold swapsWith swB
  simp only [hb, Bool.true_and]
  show pure _ = pure _
  congr 1
  congr 1
  congr 1
  show (env.scope.names.lookup x == some .local) = _
  by_cases h : env.scope.names.lookup x = some NameKind.local
  · rw [h]; simp
  · simp [h]

/-! ### a, b = x, y -/
def locAt (sc : Scope) (l : Nat) : Expr → Option Str
  | .Name x p => if sc.names.lookup x = some .local ∧ p.line = l then some x else none
  | _ => none
theorem sw2 {env : Env} {sc : Scope} {x y : Str} {px py p p2 : Pos} {k k2 : Nat} {a b : Expr} (hs : env.scope = sc) (hk : env.scope.kind = .function) (hx : sc.names.lookup x = some .local) (hy : sc.names.lookup y = some .local) (hl : py.line = px.line) (hxy : x ≠ y)
    (ha : notStar a = true) (hb : notStar b = true) (hf : (foldedForSure 8 a && foldedForSure 8 b) = false) (hc : (constantsAlone 8 a && constantsAlone 8 b) = false) :
    swappedStores [.Tuple [.Name x px, .Name y py] k p] (.Tuple [a, b] k2 p2) env = pure (some [x, y]) := by
  have bk : env.blockKind = .function := by unfold Env.blockKind; rw [hk]; rfl
  have kx : env.kindOf x = some .local := by show env.scope.names.lookup x = _; rw [hs]; exact hx
  have ky : env.kindOf y = some .local := by show env.scope.names.lookup y = _; rw [hs]; exact hy
  have st : (([a, b] : List Expr).any fun | .Starred .. => true | _ => false) = false := by
    cases a <;> cases b <;> first | rfl | (cases ha; done) | (cases hb; done)
  unfold swappedStores
  simp only [bk, List.length_cons, List.length_nil, st, List.head?_cons, Option.map_some, Option.getD_some, Expr.pos, List.filterMap_cons, List.filterMap_nil, kx, ky, hl, List.all_cons, List.all_nil, Bool.and_true, hf, hc]
  have e : ([x, y] : List Str).eraseDups = [x, y] := by
    simp [List.eraseDups_cons, hxy, Ne.symm hxy]
  simp [e]
  refine fun hh => absurd hh ?_
  rintro (hh | hh)
  · cases a <;> first | (cases hh; done) | (cases ha; done)
  · cases b <;> first | (cases hh; done) | (cases hb; done)
theorem sw3 {env : Env} {sc : Scope} {x y z : Str} {px py pz p p2 : Pos} {k k2 : Nat} {a b c : Expr} (hs : env.scope = sc) (hk : env.scope.kind = .function) (hx : sc.names.lookup x = some .local) (hy : sc.names.lookup y = some .local) (hz : sc.names.lookup z = some .local) (hl : py.line = px.line) (hl2 : pz.line = px.line) (hxy : x ≠ y) (hxz : x ≠ z) (hyz : y ≠ z)
    (ha : notStar a = true) (hb : notStar b = true) (hcs : notStar c = true) (hf : (foldedForSure 8 a && (foldedForSure 8 b && foldedForSure 8 c)) = false) (hc : (constantsAlone 8 a && (constantsAlone 8 b && constantsAlone 8 c)) = false) :
    swappedStores [.Tuple [.Name x px, .Name y py, .Name z pz] k p] (.Tuple [a, b, c] k2 p2) env = pure (some [x, y, z]) := by
  have bk : env.blockKind = .function := by unfold Env.blockKind; rw [hk]; rfl
  have kx : env.kindOf x = some .local := by show env.scope.names.lookup x = _; rw [hs]; exact hx
  have ky : env.kindOf y = some .local := by show env.scope.names.lookup y = _; rw [hs]; exact hy
  have kz : env.kindOf z = some .local := by show env.scope.names.lookup z = _; rw [hs]; exact hz
  have st : (([a, b, c] : List Expr).any fun | .Starred .. => true | _ => false) = false := by
    have q : ∀ {e : Expr}, notStar e = true → (match e with | .Starred .. => true | _ => false) = false := fun {e} h => by cases e <;> first | rfl | cases h
    simp only [List.any_cons, List.any_nil, q ha, q hb, q hcs, Bool.or_false]
  unfold swappedStores
  simp only [bk, List.length_cons, List.length_nil, st, List.head?_cons, Option.map_some, Option.getD_some, Expr.pos, List.filterMap_cons, List.filterMap_nil, kx, ky, kz, hl, hl2, List.all_cons, List.all_nil, Bool.and_true, hf, hc]
  have e : ([x, y, z] : List Str).eraseDups = [x, y, z] := by
    simp [List.eraseDups_cons, hxy, Ne.symm hxy, hxz, Ne.symm hxz, hyz, Ne.symm hyz]
  simp [e]
  refine fun hh => absurd hh ?_
  rintro (hh | hh | hh)
  · cases a <;> first | (cases hh; done) | (cases ha; done)
  · cases b <;> first | (cases hh; done) | (cases hb; done)
  · cases c <;> first | (cases hh; done) | (cases hcs; done)
/-- values that are folded are stored from the left -/
theorem sw0 {env : Env} {ps vs : List Expr} {k k2 : Nat} {p p2 : Pos} (h : vs.all (foldedForSure 8) = true) : swappedStores [.Tuple ps k p] (.Tuple vs k2 p2) env = pure none := by
  unfold swappedStores
  simp only [h]
  (repeat' split) <;> first | rfl | (exfalso; exact ‹¬True› trivial)

/-- a name that a comprehension reads is no plain one: stored from the left, too -/
theorem swOff {env : Env} {x y : Str} {px py : Pos} {vs : List Expr} {k k2 : Nat} {p p2 : Pos} (h : (env.kindOf x == some .local) = false ∨ (env.kindOf y == some .local) = false) : swappedStores [.Tuple [.Name x px, .Name y py] k p] (.Tuple vs k2 p2) env = pure none := by
  unfold swappedStores
  rcases h with h | h
  · simp only [List.filterMap_cons, List.filterMap_nil, h, Bool.false_and]
    (repeat' split) <;> first | rfl | (exfalso; simp_all; done)
  · simp only [List.filterMap_cons, List.filterMap_nil, h, Bool.false_and]
    (repeat' split) <;> first | rfl | (exfalso; simp_all; done)
def offL (C : Ck) : List Expr → Bool
  | [.Name x _, .Name y _] => !(C.sc.names.lookup x == some .local) || !(C.sc.names.lookup y == some .local)
  | _ => false
def chkPar (C : Ck) (ts : List (Nat × Md)) : List Expr → List Expr → Bool
  | ps, vs => decide (ts.length ≤ sizeLine) && chkNs C (ts.map (·.1)) ps && ((vs.all (foldedForSure 8) || offL C ps) || (match ps, vs with
      | [.Name x px, .Name y py], [a, b] => decide (C.sc.names.lookup x = some .local) && decide (C.sc.names.lookup y = some .local) && decide (py.line = px.line) && decide (x ≠ y) && notStar a && notStar b && !(foldedForSure 8 a && foldedForSure 8 b) && !(constantsAlone 8 a && constantsAlone 8 b)
      | [.Name x px, .Name y py, .Name z pz], [a, b, c] => decide (C.sc.names.lookup x = some .local) && decide (C.sc.names.lookup y = some .local) && decide (C.sc.names.lookup z = some .local) && decide (py.line = px.line) && decide (pz.line = px.line) && decide (x ≠ y) && decide (x ≠ z) && decide (y ≠ z) && notStar a && notStar b && notStar c &&
          !(foldedForSure 8 a && (foldedForSure 8 b && foldedForSure 8 c)) && !(constantsAlone 8 a && (constantsAlone 8 b && constantsAlone 8 c))
      | _, _ => false))

def isTxt : Expr → Bool
  | .Constant (.str _) _ _ => true
  | _ => false
def chkMk (C : Ck) (x : Str) : Expr → Bool
  | .Call (.Name y _) [e] [] _ => decide (x = y) && C.gl x && isTxt e
  | _ => false
/-- the suite of a handler: a constant is handed back, or put into a name -/
def chkH (C : Ck) (T : List Nat) : S → Stmt → Bool
  | .ret (.k d), .Return (some (.Constant c _ _)) _ => kOk d c
  | .asg (.nm i) .frz (.k d), .Assign [p] (.Constant c _ _) _ => kOk d c && decide (i ∈ T) && chkN C i p
  | _, _ => false
def chkHd (C : Ck) (T : List Nat) (x : Str) (h : S) : ExceptHandler → Bool
  | .ExceptHandler (some (.Name y _)) none [s] _ => decide (x = y) && C.gl x && chkH C T h s
  | _ => false
def chkHs (C : Ck) (T : List Nat) (x : Str) (h : S) : List ExceptHandler → Bool
  | [hd] => chkHd C T x h hd
  | _ => false
def chkTS (C : Ck) (o i : E) : Expr → Bool
  | .Subscript po pi _ => plainIx pi && chkE C o po && chkE C i pi
  | _ => false
def chkT2 (C : Ck) (o i o' i' : E) : List Expr → Bool
  | a :: b :: l => l.isEmpty && chkTS C o i a && chkTS C o' i' b
  | _ => false
def chkT2' (C : Ck) (o i o' i' : E) : Expr → Bool
  | .Tuple ts _ _ => chkT2 C o i o' i' ts
  | _ => false
mutual
def chkS (C : Ck) (T : List Nat) : S → Stmt → Bool
  | .asg t m e, .Assign [p] pe pos => (match t, p with
      | .nm i, .Name x px => mdOk m && decide (i ∈ T) && chkN C i (.Name x px) && chkE C e pe && (notComp pe || (match pe with | .ListComp _ _ _ _ => true | _ => false))
      | .tp is, .Tuple ps _ _ => is.all (fun j => decide (j ∈ T)) && chkNs C is ps && chkE C e pe && notComp pe && !(isTup pe)
      | _, _ => false)
  | .par ts es, .Assign [.Tuple ps _ _] (.Tuple vs _ _) pos => ts.all (fun p => mdOk p.2) && ts.all (fun p => decide (p.1 ∈ T)) && chkPar C ts ps vs && chkEs C es vs
  | .set o i e, .Assign [.Subscript po pi _] pe _ => notComp pe && plainIx pi && chkE C e pe && chkE C o po && chkE C i pi
  | .aug i o e, .AugAssign (.Name x px) op pe _ => augOk o && decide (opOf o = op) && decide (i ∈ T) && chkN C i (.Name x px) && chkE C e pe
  | .augs o i op e, .AugAssign (.Subscript po pi _) op' pe _ => augOk op && decide (opOf op = op') && plainIx pi && chkE C o po && chkE C i pi && chkE C e pe
  | .set2 o i o' i' e, .Assign [p] pe _ => notComp pe && chkE C e pe && chkT2' C o i o' i' p
  | .ex e, .Expr pe _ => notComp pe && chkE C e pe
  | .ifs c a b, .If pc as bs _ => chkE C c pc && chkSs C T a as && chkSs C T b bs
  | .whl c b, .While pc bs os _ => os.isEmpty && chkE C c pc && chkSs C T b bs
  | .frs t it b, .For tg iter bs os _ => os.isEmpty && notSet iter && t.ix.all (fun j => decide (j ∈ T)) && chkI C it iter (isTup tg) && chkG C t tg && chkSs C T b bs
  | .ret e, .Return (some pe) _ => chkE C e pe
  | .retN, .Return none _ => true
  | .brk, .Break _ => true
  | .cnt, .Continue _ => true
  | .pas, .Pass _ => true
  | .pas, .Expr (.Constant (.str _) _ _) _ => true
  | .never, _ => true
  | .rais x _, .Raise (some e) none _ => chkMk C x e
  | .tryx b x _ _ h, .Try body hs orelse fin _ => orelse.isEmpty && fin.isEmpty && chkHs C T x h hs && chkSs C [] b body
  | _, _ => false
def chkSs (C : Ck) (T : List Nat) : Ss → List Stmt → Bool
  | .nil, [] => true
  | .cons (.fz _) ss, ps => chkSs C T ss ps
  | .cons (.asg t m e) ss, p :: ps => chkS C T (.asg t m e) p && chkSs C T ss ps
  | .cons (.par ts es) ss, p :: ps => chkS C T (.par ts es) p && chkSs C T ss ps
  | .cons (.set o i e) ss, p :: ps => chkS C T (.set o i e) p && chkSs C T ss ps
  | .cons (.aug i o e) ss, p :: ps => chkS C T (.aug i o e) p && chkSs C T ss ps
  | .cons (.augs a b c d) ss, p :: ps => chkS C T (.augs a b c d) p && chkSs C T ss ps
  | .cons (.set2 a b c d e) ss, p :: ps => chkS C T (.set2 a b c d e) p && chkSs C T ss ps
  | .cons (.ex e) ss, p :: ps => chkS C T (.ex e) p && chkSs C T ss ps
  | .cons (.ifs c a b) ss, p :: ps => chkS C T (.ifs c a b) p && chkSs C T ss ps
  | .cons (.whl c b) ss, p :: ps => chkS C T (.whl c b) p && chkSs C T ss ps
  | .cons (.frs t it b) ss, p :: ps => chkS C T (.frs t it b) p && chkSs C T ss ps
  | .cons (.ret e) ss, p :: ps => chkS C T (.ret e) p && chkSs C T ss ps
  | .cons .retN ss, p :: ps => chkS C T .retN p && chkSs C T ss ps
  | .cons .brk ss, p :: ps => chkS C T .brk p && chkSs C T ss ps
  | .cons .cnt ss, p :: ps => chkS C T .cnt p && chkSs C T ss ps
  | .cons .pas ss, p :: ps => chkS C T .pas p && chkSs C T ss ps
  | .cons (.rais x m) ss, p :: ps => chkS C T (.rais x m) p && chkSs C T ss ps
  | .cons (.tryx b x cs ns h) ss, p :: ps => chkS C T (.tryx b x cs ns h) p && chkSs C T ss ps
  | .cons .never ss, _ :: ps => chkSs C T ss ps
  | _, _ => false
end
section
variable (P : Program) (w : World) (K : PySem.W.Frag) (mg : Str → Option Value) (base : Heap) (k : Nat)
/-- an own class of errors over ValueError -/
def RaisesIn (x : Str) : Prop := ∃ C, mg x = some (.ref C) ∧ PySem.W.excIn K C [.type "ValueError", .type "Exception", .type "BaseException", .type "object"] "ValueError.__new__" = true ∧ PySem.W.keepIn K (.ref C) = true ∧ PySem.W.subIn K (.ref C) (.type "BaseException") = some true ∧ PySem.W.typeIn K (.ref C) = some (.type "type")
def CaughtIn (x : Str) (b : Bool) (c : Str) : Prop := ∃ X C, mg x = some (.ref X) ∧ mg c = some (.ref C) ∧ PySem.W.exmOne K (.ref C) (.ref X) = some b
def NamedIn (x : Str) : Prop := ∃ X : Addr, mg x = some (.ref X)
mutual
def NdS : S → Prop
  | .asg _ _ e => NdE P w K mg base k e
  | .par _ es => NdEs P w K mg base k es
  | .set o i e => NdE P w K mg base k e ∧ NdE P w K mg base k o ∧ NdE P w K mg base k i
  | .aug _ _ e => NdE P w K mg base k e
  | .augs o i _ e => NdE P w K mg base k e ∧ NdE P w K mg base k o ∧ NdE P w K mg base k i
  | .set2 o i o' i' e => NdE P w K mg base k e ∧ NdE P w K mg base k o ∧ NdE P w K mg base k i ∧ NdE P w K mg base k o' ∧ NdE P w K mg base k i'
  | .ex e => NdE P w K mg base k e
  | .ifs c a b => NdE P w K mg base k c ∧ NdSs a ∧ NdSs b
  | .whl c b => NdE P w K mg base k c ∧ NdSs b
  | .frs _ it b => NdI P w K mg base k it ∧ NdSs b
  | .ret e => NdE P w K mg base k e
  | .retN => True
  | .brk => True
  | .cnt => True
  | .pas => True
  | .rais x _ => RaisesIn K mg x
  | .tryx b x cs ns _ => NdSs b ∧ NamedIn mg x ∧ (∀ c ∈ cs, CaughtIn K mg x true c) ∧ (∀ c ∈ ns, CaughtIn K mg x false c)
  | .never => True
  | .fz _ => True
def NdSs : Ss → Prop
  | .nil => True
  | .cons s ss => NdS s ∧ NdSs ss
end
end
structure CtxS (C : Ck) (k : Nat) (X : Cx) (W : WX) : Prop extends Ctx C k X W where
  kind : X.env.scope.kind = .function
  own : PassesOwn (model X.prog X.w) X.A X.env X.xe
  stk : X.stack = X.env :: X.outer
  frm : X.env.frame = some X.env.locals

section
variable {C : Ck} {k : Nat} {X : Cx} {W : WX} {T : List Nat}
theorem asg_nm {i : Nat} {x : Str} {px pos : Pos} {e : E} {pe : Expr} (c : CtxS C k X W) (hi : chkN C i (.Name x px) = true) (he : chkE C e pe = true) (n : NdX X k e) (hp : notComp pe = true ∨ ∃ a b d f, pe = .ListComp a b d f) :
    PS X (.Assign [.Name x px] pe pos) (tAsg (TEv X.K X.mg W (ev e).e) (gName i)) := by
  simp only [chkN, Bool.and_eq_true, decide_eq_true_eq] at hi
  obtain ⟨l1, l2⟩ := c.loc hi.2
  have hN : X.N[i]? = some x := by rw [c.N]; exact hi.1
  have se := (snE e c.toCtx he n).1
  rcases hp with hp | ⟨elt, gs, scope, p, rfl⟩
  · exact ps_set c.nd hN l1 se (sw_plain hp) l2
  · have q := sw_lc (env := X.env) (x := x) (px := px) (pos := p) (elt := elt) (gs := gs) (scope := scope) (l := pos.line) c.kind
    cases hb : swB X.env.scope x px (.ListComp elt gs scope p) with
    | false => rw [hb] at q; exact ps_set c.nd hN l1 se q l2
    | true =>
      rw [hb] at q
      simp only [swB, Bool.and_eq_true, decide_eq_true_eq] at hb
      cases e <;> try (simp [chkE, plainT] at he; done)
      rename_i elt' t it cs
      cases gs with
      | nil => simp [chkE] at he
      | cons g gs =>
        cases gs with
        | cons _ _ => simp [chkE] at he
        | nil =>
          obtain ⟨tg, iter, ifs, ias⟩ := g
          simp only [chkE, Bool.and_eq_true, decide_eq_true_eq] at he
          obtain ⟨⟨⟨⟨⟨⟨rfl, h0⟩, h1⟩, h2⟩, h3⟩, h4⟩, h5⟩ := he
          have ok : BlkOk X.N X.env.scope scope (ownOf C.N t.ix) := by rw [c.N, c.sc]; exact blkOk_by h3
          refine PS.weak (ps_setLc (i := i) (tg := tg) (iter := iter) (ifs := ifs) (g := TGv X.K t) (tt := TTv X.K X.mg noW (evTs cs)) (te := TEv X.K X.mg noW (ev elt').e) c.calm c.nd hN hb.1.1 q (snI it (W := W) (tg := tg) c.toCtx h1 n.2.1) ok (fun s H C' cl fp => tg_of (c.blk s H C' cl fp scope) h2)
            (fun s H C' cl fp => snT cs (c.blk s H C' cl fp scope) h4 n.2.2) (fun s H C' cl fp => (snE elt' (c.blk s H C' cl fp scope) h5 n.1).1) ?_) fun D σ H h => lc_read (own_ix _) σ H _ h
          cases iter <;> first | (intro _; rfl) | cases h0
theorem gs_put (c : CtxS C k X W) : ∀ (ts : List (Nat × Md)) (ps : List Expr), chkNs C (ts.map (·.1)) ps = true → PGs X ps (fun vs σ H Q => vs.length = ts.length ∧ Q (putAll ts vs σ) H)
  | [], [], _ => PGs.weak pgs_nil fun vs σ H Q ⟨e, q⟩ => match vs, e, q with
    | [], _, q => ⟨rfl, q⟩
  | [], _ :: _, h => by cases h
  | _ :: _, [], h => by cases h
  | (i, m) :: ts, p :: ps, h => by
    simp only [List.map_cons, chkNs, Bool.and_eq_true] at h
    have hp := h.1
    cases p <;> try (cases hp; done)
    rename_i x px
    simp only [chkN, Bool.and_eq_true, decide_eq_true_eq] at hp
    obtain ⟨l1, l2⟩ := c.loc hp.2
    exact PGs.weak (pgs_cons (pg_name c.nd (by rw [c.N]; exact hp.1) l1 l2) (gs_put c ts ps h.2) (by rw [asg_cons h.1]; rfl)) fun vs σ H Q ⟨e, q⟩ => match vs, e, q with
      | v :: vs, e, q => ⟨v, vs, rfl, by simpa using e, q⟩
theorem par_read {ts : List (Nat × Md)} {ps : List Expr} {vs : List Expr} {es : Es} {k1 k2 : Nat} {p1 p2 pos : Pos} (c : CtxS C k X W) (hm : chkPar C ts ps vs = true) (hv : chkEs C es vs = true) (n : NdXs X k es) :
    ∃ t, PS X (.Assign [.Tuple ps k1 p1] (.Tuple vs k2 p2) pos) t ∧ ∀ D σ H, TAv X.K X.mg W (evs es) σ H (fun us H1 => us.length = ts.length ∧ D.nx (putAll ts us σ) H1 ∧ ∀ p, H1 p = none → D.nx (putAll ts us σ) (upd H1 p (.tup us))) → t D σ H := by
  simp only [chkPar, Bool.and_eq_true, Bool.or_eq_true, decide_eq_true_eq] at hm
  obtain ⟨⟨h0, h1⟩, h2⟩ := hm
  have sa := snEs es (W := W) c.toCtx hv n
  obtain ⟨g1, g2, g3⟩ := gs_of c.toCtx h1
  rcases h2 with h2 | h2
  · have hw : swappedStores [.Tuple ps k1 p1] (.Tuple vs k2 p2) X.env = pure none := by
      rcases h2 with h2 | h2
      · exact sw0 (env := X.env) (ps := ps) (k := k1) (k2 := k2) (p := p1) (p2 := p2) h2
      · unfold offL at h2
        split at h2
        · rename_i x px y py
          simp only [Bool.or_eq_true, Bool.not_eq_true'] at h2
          exact swOff (by
            have e : ∀ z, X.env.kindOf z = C.sc.names.lookup z := fun z => by show X.env.scope.names.lookup z = _; rw [c.sc]
            rw [e, e]; exact h2)
        · cases h2
    refine ⟨_, ps_asg (pe_tup (x1 := k2) (pos := p2) sa) (pg_tup (pos := p1) (k := k1) (n := ts.length) c.calm (gs_put c ts ps h1) (by rw [g2]; simp) g3) rfl hw rfl, fun D σ H ⟨G, ρ, μ, rel, o⟩ => ⟨G, ρ, μ, rel, o.mono fun ds μ1 o1 G1 H1 us fp h1 r1 n1 b1 => ?_⟩⟩
    obtain ⟨e, q, q2⟩ := o1 G1 H1 us fp h1 r1 n1 b1
    exact ⟨by rw [e]; exact h0, fun p hp => ⟨p, us, rfl, SqT.of upd_same, e, e, q2 p hp⟩⟩
  · split at h2
    · rename_i x px y py a b
      simp only [Bool.and_eq_true, Bool.not_eq_true', decide_eq_true_eq] at h2
      obtain ⟨⟨⟨⟨⟨⟨⟨hx, hy⟩, hl⟩, hxy⟩, ha⟩, hb⟩, hf⟩, hc⟩ := h2
      have hw := sw2 (env := X.env) (sc := C.sc) (k := k1) (k2 := k2) (p := p1) (p2 := p2) (px := px) (py := py) c.sc c.kind hx hy hl hxy ha hb hf hc
      match ts, h1 with
      | [(i, m1), (j, m2)], h1 =>
        simp only [List.map_cons, List.map_nil, chkNs, chkN, Bool.and_eq_true, decide_eq_true_eq, Bool.and_true] at h1
        have ni : X.N[i]? = some x := by rw [c.N]; exact h1.1.1
        have nj : X.N[j]? = some y := by rw [c.N]; exact h1.2.1
        have hij : i ≠ j := fun e => by subst e; rw [ni] at nj; cases nj; exact hxy rfl
        refine ⟨_, ps_par (pos := pos) (px := px) (py := py) (pt := p1) (kt := k1) (k2 := k2) (pt2 := p2) c.calm c.nd ni nj hij (by rw [c.sc]; exact hx) (by rw [c.sc]; exact hy) sa hw rfl, fun D σ H ⟨G, ρ, μ, rel, o⟩ => ⟨G, ρ, μ, rel, o.mono fun ds μ1 o1 G1 H1 us fp h1 r1 n1 b1 => ?_⟩⟩
        obtain ⟨e, q, _⟩ := o1 G1 H1 us fp h1 r1 n1 b1
        match us, e, q with
        | [u1, u2], _, q => exact ⟨u1, u2, rfl, q⟩
      | [], h1 => simp [chkNs] at h1
      | [_], h1 => simp [chkNs] at h1
      | _ :: _ :: _ :: _, h1 => simp [chkNs] at h1
    · rename_i x px y py z pz a b d
      simp only [Bool.and_eq_true, Bool.not_eq_true', decide_eq_true_eq] at h2
      obtain ⟨⟨⟨⟨⟨⟨⟨⟨⟨⟨⟨⟨hx, hy⟩, hz⟩, hl⟩, hl2⟩, hxy⟩, hxz⟩, hyz⟩, ha⟩, hb⟩, hd⟩, hf⟩, hc⟩ := h2
      have hw := sw3 (env := X.env) (sc := C.sc) (k := k1) (k2 := k2) (p := p1) (p2 := p2) (px := px) (py := py) (pz := pz) c.sc c.kind hx hy hz hl hl2 hxy hxz hyz ha hb hd hf hc
      match ts, h1 with
      | [(i, m1), (j, m2), (l, m3)], h1 =>
        simp only [List.map_cons, List.map_nil, chkNs, chkN, Bool.and_eq_true, decide_eq_true_eq, Bool.and_true] at h1
        have ni : X.N[i]? = some x := by rw [c.N]; exact h1.1.1
        have nj : X.N[j]? = some y := by rw [c.N]; exact h1.2.1.1
        have nl : X.N[l]? = some z := by rw [c.N]; exact h1.2.2.1
        have hij : i ≠ j := fun e => by subst e; rw [ni] at nj; cases nj; exact hxy rfl
        have hil : i ≠ l := fun e => by subst e; rw [ni] at nl; cases nl; exact hxz rfl
        have hjl : j ≠ l := fun e => by subst e; rw [nj] at nl; cases nl; exact hyz rfl
        refine ⟨_, ps_par3 (pos := pos) (px := px) (py := py) (pz := pz) (pt := p1) (kt := k1) (k2 := k2) (pt2 := p2) c.calm c.nd ni nj nl hij hil hjl (by rw [c.sc]; exact hx) (by rw [c.sc]; exact hy) (by rw [c.sc]; exact hz) sa hw rfl, fun D σ H ⟨G, ρ, μ, rel, o⟩ => ⟨G, ρ, μ, rel, o.mono fun ds μ1 o1 G1 H1 us fp h1 r1 n1 b1 => ?_⟩⟩
        obtain ⟨e, q, _⟩ := o1 G1 H1 us fp h1 r1 n1 b1
        match us, e, q with
        | [u1, u2, u3], _, q => exact ⟨u1, u2, u3, rfl, q⟩
      | [], h1 => simp [chkNs] at h1
      | [_], h1 => simp [chkNs] at h1
      | [_, _], h1 => simp [chkNs] at h1
      | _ :: _ :: _ :: _ :: _, h1 => simp [chkNs] at h1
    · cases h2

theorem sn_asg {t : Tn} {m : Md} {e : E} {st : Stmt} (c : CtxS C k X W) (h : chkS C T (.asg t m e) st = true) (n : NdS X.prog X.w X.K X.mg X.base k (.asg t m e)) : SS X W T st (exS (.asg t m e)) := by
  cases st <;> try (simp [chkS] at h; done)
  rename_i tgs pe pos
  cases tgs with
  | nil => simp [chkS] at h
  | cons p ps =>
    cases ps with
    | cons _ _ => simp [chkS] at h
    | nil =>
      cases t with
      | nm i =>
        cases p <;> try (simp [chkS] at h; done)
        rename_i x px
        simp only [chkS, Bool.and_eq_true, Bool.or_eq_true, decide_eq_true_eq] at h
        obtain ⟨⟨⟨⟨h1, h2⟩, h3⟩, h4⟩, h5⟩ := h
        have := asg_nm (pos := pos) c h3 h4 n (h5.imp id fun q => by
          split at q
          · exact ⟨_, _, _, _, rfl⟩
          · cases q)
        exact ss_nm h1 h2 this
      | tp is =>
        cases p <;> try (simp [chkS] at h; done)
        rename_i ps j px
        simp only [chkS, Bool.and_eq_true, Bool.not_eq_true', List.all_eq_true, decide_eq_true_eq] at h
        obtain ⟨⟨⟨⟨h1, h2⟩, h3⟩, h4⟩, h5⟩ := h
        obtain ⟨g1, g2, g3⟩ := gs_of c.toCtx h2
        have hw : swappedStores [.Tuple ps j px] pe X.env = pure none := by cases pe <;> first | rfl | (cases h5; done)
        exact ss_tp (md := m) h1 (ps_asg (pos := pos) (snE e c.toCtx h3 n).1 (g_tp (pos := px) (k := j) c.calm g1 g2 g3) (sw_sole h4) hw rfl)
theorem sn_par {ts : List (Nat × Md)} {es : Es} {st : Stmt} (c : CtxS C k X W) (h : chkS C T (.par ts es) st = true) (n : NdS X.prog X.w X.K X.mg X.base k (.par ts es)) : SS X W T st (exS (.par ts es)) := by
  cases st <;> try (simp [chkS] at h; done)
  rename_i tgs pe pos
  cases tgs with
  | nil => simp [chkS] at h
  | cons p ps =>
    cases ps with
    | cons _ _ => cases p <;> exact Bool.noConfusion (show false = true from h)
    | nil =>
      cases p <;> try (simp [chkS] at h; done)
      rename_i ps k1 p1
      cases pe <;> try (simp [chkS] at h; done)
      rename_i vs k2 p2
      simp only [chkS, Bool.and_eq_true] at h
      obtain ⟨⟨⟨h1, h2⟩, h3⟩, h4⟩ := h
      obtain ⟨t, ht, hr⟩ := par_read (k1 := k1) (k2 := k2) (p1 := p1) (p2 := p2) (pos := pos) c h3 h4 n
      exact ss_par h1 (fun p hp => by
        rw [List.all_eq_true] at h2
        simpa using h2 p hp) ht hr
theorem chkTS_of {C : Ck} {o i : E} {p : Expr} (h : chkTS C o i p = true) : ∃ po pi p2, p = .Subscript po pi p2 ∧ plainIx pi = true ∧ chkE C o po = true ∧ chkE C i pi = true := by
  unfold chkTS at h
  split at h
  · simp only [Bool.and_eq_true] at h
    exact ⟨_, _, _, rfl, h.1.1, h.1.2, h.2⟩
  · cases h
theorem chkT2_of {C : Ck} {o i o' i' : E} {ts : List Expr} (h : chkT2 C o i o' i' ts = true) : ∃ a b, ts = [a, b] ∧ chkTS C o i a = true ∧ chkTS C o' i' b = true := by
  unfold chkT2 at h
  split at h
  · simp only [Bool.and_eq_true, List.isEmpty_iff] at h
    obtain ⟨⟨h1, h2⟩, h3⟩ := h
    subst h1
    exact ⟨_, _, rfl, h2, h3⟩
  · cases h
theorem sn_set2 {o i o' i' e : E} {st : Stmt} (c : CtxS C k X W) (h : chkS C T (.set2 o i o' i' e) st = true) (n : NdS X.prog X.w X.K X.mg X.base k (.set2 o i o' i' e)) : SS X W T st (exS (.set2 o i o' i' e)) := by
  cases st <;> try (exact Bool.noConfusion (show false = true from h))
  rename_i tgs pe pos
  cases tgs with
  | nil => exact Bool.noConfusion (show false = true from h)
  | cons p ps =>
    cases ps with
    | cons _ _ => exact Bool.noConfusion (show false = true from h)
    | nil =>
      have h : (notComp pe && chkE C e pe && chkT2' C o i o' i' p) = true := h
      simp only [Bool.and_eq_true] at h
      obtain ⟨⟨h1, h3⟩, h2⟩ := h
      cases p <;> try (cases h2; done)
      rename_i ts j px
      obtain ⟨a, b, rfl, ha, hb⟩ := chkT2_of h2
      obtain ⟨po, pi, p2, rfl, q1, q2, q3⟩ := chkTS_of ha
      obtain ⟨po', pi', p3, rfl, q4, q5, q6⟩ := chkTS_of hb
      exact ss_set2 c.calm (snE e c.toCtx h3 n.1).1 (snE o c.toCtx q2 n.2.1).1 (snE i c.toCtx q3 n.2.2.1).1 (snE o' c.toCtx q5 n.2.2.2.1).1 (snE i' c.toCtx q6 n.2.2.2.2).1 q1 q4 (sw_sole h1)
theorem sn_rais {x m : Str} {st : Stmt} (c : CtxS C k X W) (h : chkS C T (.rais x m) st = true) (n : NdS X.prog X.w X.K X.mg X.base k (.rais x m)) : SS X W T st (exS (.rais x m)) := by
  cases st <;> try (exact Bool.noConfusion (show false = true from h))
  rename_i e cause pos
  cases e with
  | none => exact Bool.noConfusion (show false = true from h)
  | some e =>
    cases cause with
    | some _ => exact Bool.noConfusion (show false = true from h)
    | none =>
      have h : chkMk C x e = true := h
      unfold chkMk at h
      split at h
      · rename_i y py a p
        simp only [Bool.and_eq_true, decide_eq_true_eq] at h
        obtain ⟨⟨rfl, h2⟩, h3⟩ := h
        unfold isTxt at h3
        split at h3
        · rename_i s j p2
          obtain ⟨Ca, g, x1, kp, b, t⟩ := n
          obtain ⟨hg, hdb⟩ := c.gl h2
          refine PS.weak (ps_raise c.calm c.tk (pmk_own PySem.F.excBase_ValueError x1 g kp (raises_own b t) hg hdb)) fun D σ H ⟨G, ρ, μ, rel, o⟩ => ?_
          exact o G H σ rel.here Fr.refl Ca g
        · cases h3
      · cases h
theorem fr_nil {T : List Nat} {σ σ' : L2.St} (h : Fr [] σ σ') : Fr T σ σ' := ⟨h.len, fun j _ => h.off j (by simp)⟩
theorem fr_eq {σ σ' : L2.St} (h : Fr [] σ σ') : σ' = σ := List.ext_getElem? fun j => h.off j (by simp)
/-- a handler's suite raises nothing -/
theorem hand_ret {d : D} {ρ : Slots} {μ : Store} (c : Str) (μ' : Store) : exS (.ret (.k d)) ρ μ ≠ .exc c μ' := fun e => by
  have e' : Res.ok (Fl.rt d) μ = Res.exc c μ' := e
  cases e'
theorem hand_asg {i : Nat} {d : D} {ρ : Slots} {μ : Store} (c : Str) (μ' : Store) : exS (.asg (.nm i) .frz (.k d)) ρ μ ≠ .exc c μ' := fun e => by
  have e' : (if i < ρ.length then (layD .frz d μ).bind fun y μ2 => Res.ok (Fl.nx (ρ.set i (some y))) μ2 else .bad) = Res.exc c μ' := e
  split at e'
  · have e2 : Res.ok (Fl.nx (ρ.set i (some (frz d)))) μ = Res.exc c μ' := e'
    cases e2
  · cases e'
/-- a handler's suite raises nothing -/
theorem hand_ok {h : S} {s : Stmt} {ρ : Slots} {μ : Store} (hc : chkH C T h s = true) : (∀ c μ', exS h ρ μ ≠ .exc c μ') := by
  unfold chkH at hc
  split at hc
  · exact hand_ret
  · exact hand_asg
  · cases hc
theorem sn_hand {h : S} {s : Stmt} {X : Cx} {W W' : WX} (c : CtxS C k X W) (a : Addr) (pn : List (Addr × Obj)) (hc : chkH C T h s = true) : SS (X.suite a pn) W' T s (exS h) := by
  unfold chkH at hc
  split at hc
  · exact ss_ret (se_k hc)
  · simp only [Bool.and_eq_true, decide_eq_true_eq] at hc
    obtain ⟨⟨h1, h2⟩, h3⟩ := hc
    rename_i i d p cc j p2 p3
    unfold chkN at h3
    split at h3
    · rename_i y py
      simp only [Bool.and_eq_true, decide_eq_true_eq] at h3
      obtain ⟨l1, l2⟩ := c.loc h3.2
      have nd : (X.suite a pn).N.Nodup := c.nd
      have hN : (X.suite a pn).N[i]? = some y := by rw [← h3.1]; exact congrArg (fun l => l[i]?) c.N
      refine ss_nm (md := .frz) rfl h2 (ps_asg (se_k h1) (pg_name nd hN l1 l2) ?_ ?_ rfl)
      · exact sw_sole rfl
      · rfl
    · cases h3
  · cases hc
theorem sn_try {b : Ss} {x : Str} {cs ns : List Str} {hd : S} {st : Stmt} (c : CtxS C k X W) (h : chkS C T (.tryx b x cs ns hd) st = true) (n : NdS X.prog X.w X.K X.mg X.base k (.tryx b x cs ns hd))
    (hB : ∀ {X' : Cx} {W' : WX} {body : List Stmt}, CtxS C k X' W' → chkSs C [] b body = true → NdSs X'.prog X'.w X'.K X'.mg X'.base k b → SSs X' W' [] body (exSs b)) : SS X W T st (exS (.tryx b x cs ns hd)) := by
  cases st <;> try (exact Bool.noConfusion (show false = true from h))
  rename_i body hs orelse fin pos
  have h : (orelse.isEmpty && fin.isEmpty && chkHs C T x hd hs && chkSs C [] b body) = true := h
  simp only [Bool.and_eq_true, List.isEmpty_iff] at h
  obtain ⟨⟨⟨rfl, rfl⟩, h1⟩, h2⟩ := h
  unfold chkHs at h1
  split at h1
  rotate_left
  · cases h1
  rename_i eh
  unfold chkHd at h1
  split at h1
  rotate_left
  · cases h1
  rename_i y py s p'
  simp only [Bool.and_eq_true, decide_eq_true_eq] at h1
  obtain ⟨⟨rfl, h3⟩, h4⟩ := h1
  obtain ⟨nb, ⟨Xa, gX⟩, ncs, nns⟩ := n
  obtain ⟨hg, hdb⟩ := c.gl h3
  refine PS.weak (ps_try_only (c := .ref Xa) (tb := fun W' => TSv X.K X.mg W' [] (exSs b)) (ts := fun _ _ _ => TSv X.K X.mg (fun _ _ _ _ => False) T (exS hd)) (Wout := W) c.stk c.frm ⟨hg, hdb, .inl gX⟩ c.tk
    (fun W' pn xe tk own => hB (X' := X.tr pn xe) (W' := W') { N := c.N, nd := c.nd, sc := c.sc, fb := c.fb, calm := c.calm, room := c.room, gd := c.gd, tk := tk, kind := c.kind, own := own, stk := c.stk, frm := c.frm } h2 nb)
    (fun a oe cls d pn _ _ => pss_one (sn_hand c a _ h4))) fun D σ H ⟨G, ρ, μ, rel, o⟩ => ?_
  refine ⟨G, ρ, μ, rel, ?_⟩
  simp only [exS] at o
  cases hm : exSs b ρ μ with
  | bad => rw [hm] at o; exact o
  | ok fl μ1 =>
    rw [hm] at o
    cases fl with
    | nx ρ' => exact fun G' H' σ' h' r' f' => o G' H' σ' h' r' (fr_nil f')
    | bk ρ' => exact fun G' H' σ' h' r' f' => o G' H' σ' h' r' (fr_nil f')
    | ct ρ' => exact fun G' H' σ' h' r' f' => o G' H' σ' h' r' (fr_nil f')
    | rt d => exact o
  | exc e μ1 =>
    rw [hm] at o
    intro G' H' σ' h' f' Ca gC
    have es := fr_eq f'
    subst es
    simp only at o
    split at o
    · rename_i hin
      obtain ⟨X1, C1, g1, g2, q⟩ := ncs e hin
      rw [gX] at g1
      cases g1
      rw [gC] at g2
      cases g2
      refine ⟨true, q, fun _ a _ => ?_, fun z => Bool.noConfusion z⟩
      refine ⟨G', ρ, μ1, rel.go h', ?_⟩
      have ob := OutS.base o h' Fr.refl
      cases hx : exS hd ρ μ1 with
      | bad => rw [hx] at ob; exact ob
      | exc e' μ' => exact absurd hx (hand_ok h4 e' μ')
      | ok fl μ2 =>
        rw [hx] at ob
        cases fl with
        | nx ρ' => exact ob
        | bk ρ' => exact ob
        | ct ρ' => exact ob
        | rt d => exact ob
    · split at o
      · rename_i _ hin
        obtain ⟨X1, C1, g1, g2, q⟩ := nns e hin
        rw [gX] at g1
        cases g1
        rw [gC] at g2
        cases g2
        exact ⟨false, q, fun z => Bool.noConfusion z, fun _ => o G' H' σ' h' Fr.refl Ca gC⟩
      · exact o.elim
mutual
theorem snS : ∀ (s : S) {C : Ck} {k : Nat} {X : Cx} {W : WX} {T : List Nat} {st : Stmt}, CtxS C k X W → chkS C T s st = true → NdS X.prog X.w X.K X.mg X.base k s → SS X W T st (exS s)
  | .asg t m e, C, k, X, W, T, st, c, h, n => sn_asg c h n
  | .par ts es, C, k, X, W, T, st, c, h, n => sn_par c h n
  | .set o i e, C, k, X, W, T, st, c, h, n => by
    cases st <;> try (simp [chkS] at h; done)
    rename_i tgs pe pos
    cases tgs with
    | nil => simp [chkS] at h
    | cons p ps =>
      cases ps with
      | cons _ _ => cases p <;> exact Bool.noConfusion (show false = true from h)
      | nil =>
        cases p <;> try (simp [chkS] at h; done)
        rename_i po pi p2
        simp only [chkS, Bool.and_eq_true] at h
        obtain ⟨⟨⟨⟨h1, h2⟩, h3⟩, h4⟩, h5⟩ := h
        exact ss_set (snE e c.toCtx h3 n.1).1 (snE o c.toCtx h4 n.2.1).1 (snE i c.toCtx h5 n.2.2).1 h2 (sw_sole h1) rfl
  | .set2 o i o' i' e, C, k, X, W, T, st, c, h, n => sn_set2 c h n
  | .aug i o e, C, k, X, W, T, st, c, h, n => by
    cases st <;> try (simp [chkS] at h; done)
    rename_i p op pe pos
    cases p <;> try (simp [chkS] at h; done)
    rename_i x px
    simp only [chkS, Bool.and_eq_true, decide_eq_true_eq] at h
    obtain ⟨⟨⟨⟨h1, rfl⟩, h3⟩, h4⟩, h5⟩ := h
    simp only [chkN, Bool.and_eq_true, decide_eq_true_eq] at h4
    obtain ⟨l1, l2⟩ := c.loc h4.2
    exact ss_aug h1 c.nd (by rw [c.N]; exact h4.1) l1 l2 h3 (snE e c.toCtx h5 n).1
  | .augs o i op e, C, k, X, W, T, st, c, h, n => by
    cases st <;> try (simp [chkS] at h; done)
    rename_i p op' pe pos
    cases p <;> try (simp [chkS] at h; done)
    rename_i po pi px
    simp only [chkS, Bool.and_eq_true, decide_eq_true_eq] at h
    obtain ⟨⟨⟨⟨⟨h1, rfl⟩, h3⟩, h4⟩, h5⟩, h6⟩ := h
    exact ss_augs h1 h3 (snE o c.toCtx h4 n.2.1).1 (snE i c.toCtx h5 n.2.2).1 (snE e c.toCtx h6 n.1).1
  | .ex e, C, k, X, W, T, st, c, h, n => by
    cases st <;> try (simp [chkS] at h; done)
    simp only [chkS, Bool.and_eq_true] at h
    exact ss_ex (snE e c.toCtx h.2 n).1 (sw_plain h.1)
  | .ifs e a b, C, k, X, W, T, st, c, h, n => by
    cases st <;> try (simp [chkS] at h; done)
    simp only [chkS, Bool.and_eq_true] at h
    exact ss_if (snE e c.toCtx h.1.1 n.1).2 (snSs a c h.1.2 n.2.1) (snSs b c h.2 n.2.2)
  | .whl e b, C, k, X, W, T, st, c, h, n => by
    cases st <;> try (simp [chkS] at h; done)
    rename_i pc bs os pos
    simp only [chkS, Bool.and_eq_true] at h
    have : os = [] := by simpa using h.1.1
    subst this
    exact ss_whl c.own (snE e c.toCtx h.1.2 n.1).2 (snSs b c h.2 n.2)
  | .frs t it b, C, k, X, W, T, st, c, h, n => by
    cases st <;> try (simp [chkS] at h; done)
    rename_i tg iter bs os pos
    simp only [chkS, Bool.and_eq_true, List.all_eq_true, decide_eq_true_eq] at h
    obtain ⟨⟨⟨⟨⟨h1, h2⟩, h3⟩, h4⟩, h5⟩, h6⟩ := h
    have : os = [] := by simpa using h1
    subst this
    exact ss_for c.own c.calm (snI it c.toCtx h4 n.1) (tg_of c.toCtx h5) h2 h3 (snSs b c h6 n.2)
  | .ret e, C, k, X, W, T, st, c, h, n => by
    cases st <;> try (simp [chkS] at h; done)
    rename_i v pos
    cases v with
    | none => simp [chkS] at h
    | some pe => exact ss_ret (snE e c.toCtx (by simpa only [chkS] using h) n).1
  | .retN, C, k, X, W, T, st, c, h, n => by
    cases st <;> try (simp [chkS] at h; done)
    rename_i v pos
    cases v with
    | some pe => simp [chkS] at h
    | none => exact ss_retN
  | .brk, C, k, X, W, T, st, c, h, n => by
    cases st <;> try (simp [chkS] at h; done)
    exact ss_brk
  | .cnt, C, k, X, W, T, st, c, h, n => by
    cases st <;> try (simp [chkS] at h; done)
    exact ss_cnt
  | .pas, C, k, X, W, T, st, c, h, n => by
    cases st <;> try (simp [chkS] at h; done)
    case Pass => exact ss_pas
    case Expr e pos =>
      cases e <;> try (simp [chkS] at h; done)
      rename_i cc j p
      cases cc <;> try (simp [chkS] at h; done)
      exact ss_doc
  | .rais _ _, C, k, X, W, T, st, c, h, n => sn_rais c h n
  | .tryx b x cs ns hd, C, k, X, W, T, st, c, h, n => sn_try c h n fun {X' W' body} c' h' n' => snSs b c' h' n'
  | .never, C, k, X, W, T, st, c, h, n => ss_never
  | .fz _, C, k, X, W, T, st, c, h, n => by cases st <;> simp [chkS] at h
theorem snSs : ∀ (ss : Ss) {C : Ck} {k : Nat} {X : Cx} {W : WX} {T : List Nat} {sts : List Stmt}, CtxS C k X W → chkSs C T ss sts = true → NdSs X.prog X.w X.K X.mg X.base k ss → SSs X W T sts (exSs ss)
  | .nil, C, k, X, W, T, sts, c, h, n => by
    cases sts with
    | nil => exact sss_nil
    | cons _ _ => simp [chkSs] at h
  | .cons s ss, C, k, X, W, T, sts, c, h, n => by
    by_cases hf : ∃ i, s = .fz i
    · obtain ⟨i, rfl⟩ := hf
      exact sss_fz (snSs ss c (by simpa only [chkSs] using h) n.2)
    · cases sts with
      | nil => cases s <;> first | (simp [chkSs] at h; done) | exact absurd ⟨_, rfl⟩ hf
      | cons st sts =>
        have h' : chkS C T s st = true ∧ chkSs C T ss sts = true := by
          cases s <;> first
            | exact absurd ⟨_, rfl⟩ hf
            | (simpa only [chkSs, Bool.and_eq_true] using h)
            | (refine ⟨?_, by simpa only [chkSs] using h⟩; simp only [chkS])
        exact sss_cons (snS s c h'.1 n.1) (snSs ss c h'.2 n.2)
end
end
end Pyf

/-! Pyf, part S: a def; the law's call. -/
namespace Pyf
open PySem PySem.Spec PyProof.Rows L2
open PySem (Str)

section
variable {K : PySem.W.Frag} {mg : Str → Option Value} {G G1 : Gh} {H H1 : Hp} {μ1 : Store} {n : Nat} {Q : VK} {E : XK} {d : D}
theorem Here.low (h : Here K G H G1 μ1 H1) (hn : G.as.length = n) (lo : lowOk n μ1 = true) : Here K G H ⟨G1.F, G.as⟩ (μ1.take n) H1 ∧ ∀ (k : Nat) (a : Addr), k < n → G1.as[k]? = some a → G.as[k]? = some a := by
  obtain ⟨l, el, hl⟩ := h.ext.as
  have get : ∀ (k : Nat) (a : Addr), k < n → G1.as[k]? = some a → G.as[k]? = some a := fun k a hk e => by
    rw [el, List.getElem?_append_left (by omega)] at e; exact e
  refine ⟨⟨⟨h.ext.f, ⟨[], by simp, by simp⟩, h.ext.fr, h.ext.nf, h.ext.tr⟩, ⟨h.cells.same, ?_, ?_, ?_, ?_⟩⟩, get⟩
  · have := h.cells.len
    rw [el, List.length_append] at this
    show G.as.length = (μ1.take n).length
    rw [List.length_take]; omega
  · have := h.cells.nd
    rw [el] at this
    exact (List.nodup_append.mp this).1
  · intro a ha
    exact h.cells.there a (by rw [el]; exact List.mem_append_left _ ha)
  · intro k a ds hk hc
    have hkn : k < n := by
      have := (List.getElem?_eq_some_iff.mp hk).1
      rw [← hn]; exact this
    rw [List.getElem?_take_of_lt hkn] at hc
    obtain ⟨q1, vs, q2, q3⟩ := h.cells.lst k a ds (by rw [el]; exact get_append hk) hc
    refine ⟨q1, vs, q2, repL_low get _ _ _ q3 ?_ (by simp)⟩
    unfold lowOk at lo
    rw [List.all_eq_true] at lo
    exact lo (.lst ds) (List.mem_of_getElem? (i := k) (by rw [List.getElem?_take_of_lt hkn]; exact hc))
theorem pullT_ok (h1 : Here K G H G1 μ1 H1) (high : ∀ (j : Nat) (b : Addr), n ≤ j → G1.as[j]? = some b → b ∉ G.as) (get : ∀ (k : Nat) (a : Addr), k < n → G1.as[k]? = some a → G.as[k]? = some a) :
    ∀ (xs : List D) (vs : List V) (seen seen' : List Nat) (ys : List D), RepL K G1.F H1 G1.as vs xs [] → pullT n μ1 seen xs = some (ys, seen') → ∃ fq, RepL K G1.F H1 G.as vs ys fq ∧ fq.Nodup ∧ (∀ b ∈ fq, ∃ j, n ≤ j ∧ j ∉ seen ∧ j ∈ seen' ∧ G1.as[j]? = some b) ∧ ∀ j ∈ seen, j ∈ seen'
  | [], vs, seen, seen', ys, r, e => by
    have hv := r.length
    cases vs with
    | nil => cases e; exact ⟨[], .nil, List.nodup_nil, by simp, fun j z => z⟩
    | cons _ _ => simp at hv
  | x :: xs, vs, seen, seen', ys, r, e => by
    cases vs with
    | nil => have := r.length; simp at this
    | cons v vs =>
      obtain ⟨r0, rt⟩ := r.nil_of
      have other : (if noPtr n x = true then (pullT n μ1 seen xs).map (fun r => (x :: r.1, r.2)) else none) = some (ys, seen') → ∃ fq, RepL K G1.F H1 G.as (v :: vs) ys fq ∧ fq.Nodup ∧ (∀ b ∈ fq, ∃ j, n ≤ j ∧ j ∉ seen ∧ j ∈ seen' ∧ G1.as[j]? = some b) ∧ ∀ j ∈ seen, j ∈ seen' := fun e => by
        split at e
        · rename_i hx
          rw [Option.map_eq_some_iff] at e
          obtain ⟨⟨zs, sn⟩, e1, e2⟩ := e
          cases e2
          obtain ⟨fq, q1, q2, q3, q4⟩ := pullT_ok h1 high get xs vs seen _ zs rt e1
          exact ⟨[] ++ fq, RepL.cons (fp := []) (rep_low get _ _ _ r0 hx (by simp)) q1, q2, q3, q4⟩
        · cases e
      cases x with
      | ptr j =>
        simp only [pullT] at e
        split at e
        · rename_i hj
          split at e
          · rename_i zs hz
            split at e
            · rename_i hq
              rw [Option.map_eq_some_iff] at e
              obtain ⟨⟨us, sn⟩, e1, e2⟩ := e
              cases e2
              obtain ⟨fq, q1, q2, q3, q4⟩ := pullT_ok h1 high get xs vs (j :: seen) _ us rt e1
              cases r0 with
              | @ptr a _ ha =>
                obtain ⟨c1, ws, c2, c3⟩ := h1.cells.lst j a zs ha hz
                refine ⟨[a] ++ fq, RepL.cons (fp := [a]) (.new c1 (high j a hj.1 ha) c2 (repL_low get _ _ _ c3 hq (by simp))) q1, ?_, fun b hb => ?_, fun k hk => q4 k (List.mem_cons_of_mem _ hk)⟩
                · refine List.nodup_append.mpr ⟨by simp, q2, fun b hb c hc he => ?_⟩
                  rw [List.mem_singleton] at hb
                  subst hb; subst he
                  obtain ⟨j', k1, k2, _, k3⟩ := q3 _ hc
                  have := nodup_ix h1.cells.nd k3 ha
                  exact k2 (by rw [this]; exact List.mem_cons_self)
                · rcases List.mem_append.mp hb with hb | hb
                  · rw [List.mem_singleton] at hb; subst hb
                    exact ⟨j, hj.1, hj.2, q4 j List.mem_cons_self, ha⟩
                  · obtain ⟨j', k1, k2, k4, k3⟩ := q3 _ hb
                    exact ⟨j', k1, fun z => k2 (List.mem_cons_of_mem _ z), k4, k3⟩
            · cases e
          · cases e
        · cases e
      | non => exact other e
      | bl _ => exact other e
      | int _ => exact other e
      | str _ => exact other e
      | lst _ => exact other e
      | tup _ => exact other e
      | new _ => exact other e
      | scr _ => exact other e
theorem pull_ok (h1 : Here K G H G1 μ1 H1) (high : ∀ (j : Nat) (b : Addr), n ≤ j → G1.as[j]? = some b → b ∉ G.as) (get : ∀ (k : Nat) (a : Addr), k < n → G1.as[k]? = some a → G.as[k]? = some a) :
    ∀ (xs : List D) (vs : List V) (seen : List Nat) (ys : List D), RepL K G1.F H1 G1.as vs xs [] → pullL n μ1 seen xs = some ys → ∃ fq, RepL K G1.F H1 G.as vs ys fq ∧ fq.Nodup ∧ ∀ b ∈ fq, ∃ j, n ≤ j ∧ j ∉ seen ∧ G1.as[j]? = some b
  | [], vs, seen, ys, r, e => by
    have hv := r.length
    cases vs with
    | nil => cases e; exact ⟨[], .nil, List.nodup_nil, by simp⟩
    | cons _ _ => simp at hv
  | x :: xs, vs, seen, ys, r, e => by
    cases vs with
    | nil => have := r.length; simp at this
    | cons v vs =>
      obtain ⟨r0, rt⟩ := r.nil_of
      have other : (if noPtr n x = true then (pullL n μ1 seen xs).map (x :: ·) else none) = some ys → ∃ fq, RepL K G1.F H1 G.as (v :: vs) ys fq ∧ fq.Nodup ∧ ∀ b ∈ fq, ∃ j, n ≤ j ∧ j ∉ seen ∧ G1.as[j]? = some b := fun e => by
        split at e
        · rename_i hx
          rw [Option.map_eq_some_iff] at e
          obtain ⟨zs, e1, rfl⟩ := e
          obtain ⟨fq, q1, q2, q3⟩ := pull_ok h1 high get xs vs seen zs rt e1
          exact ⟨[] ++ fq, RepL.cons (fp := []) (rep_low get _ _ _ r0 hx (by simp)) q1, q2, q3⟩
        · cases e
      cases x with
      | ptr j =>
        simp only [pullL] at e
        split at e
        · rename_i hj
          split at e
          · rename_i zs hz
            split at e
            · rename_i hq
              rw [Option.map_eq_some_iff] at e
              obtain ⟨us, e1, rfl⟩ := e
              obtain ⟨fq, q1, q2, q3⟩ := pull_ok h1 high get xs vs (j :: seen) us rt e1
              cases r0 with
              | @ptr a _ ha =>
                obtain ⟨c1, ws, c2, c3⟩ := h1.cells.lst j a zs ha hz
                refine ⟨[a] ++ fq, RepL.cons (fp := [a]) (.new c1 (high j a hj.1 ha) c2 (repL_low get _ _ _ c3 hq (by simp))) q1, ?_, fun b hb => ?_⟩
                · refine List.nodup_append.mpr ⟨by simp, q2, fun b hb c hc he => ?_⟩
                  rw [List.mem_singleton] at hb
                  subst hb; subst he
                  obtain ⟨j', k1, k2, k3⟩ := q3 _ hc
                  have := nodup_ix h1.cells.nd k3 ha
                  exact k2 (by rw [this]; exact List.mem_cons_self)
                · rcases List.mem_append.mp hb with hb | hb
                  · rw [List.mem_singleton] at hb; subst hb
                    exact ⟨j, hj.1, hj.2, ha⟩
                  · obtain ⟨j', k1, k2, k3⟩ := q3 _ hb
                    exact ⟨j', k1, fun z => k2 (List.mem_cons_of_mem _ z), k3⟩
            · cases e
          · cases e
        · cases e
      | non => exact other e
      | bl _ => exact other e
      | int _ => exact other e
      | str _ => exact other e
      | lst _ => exact other e
      | tup zs =>
        simp only [pullL] at e
        split at e
        · rename_i us sn hz
          rw [Option.map_eq_some_iff] at e
          obtain ⟨ws, e1, rfl⟩ := e
          cases r0 with
          | tup t1 t2 =>
            obtain ⟨fa, p1, p2, p3, p4⟩ := pullT_ok h1 high get zs _ seen sn us t2 hz
            obtain ⟨fq, q1, q2, q3⟩ := pull_ok h1 high get xs vs sn ws rt e1
            refine ⟨fa ++ fq, RepL.cons (.tup t1 p1) q1, ?_, fun b hb => ?_⟩
            · refine List.nodup_append.mpr ⟨p2, q2, fun b hb c hc he => ?_⟩
              subst he
              obtain ⟨j, k1, k2, k4, k3⟩ := p3 _ hb
              obtain ⟨j', i1, i2, i3⟩ := q3 _ hc
              have := nodup_ix h1.cells.nd k3 i3
              exact i2 (this ▸ k4)
            · rcases List.mem_append.mp hb with hb | hb
              · obtain ⟨j, k1, k2, k4, k3⟩ := p3 _ hb
                exact ⟨j, k1, k2, k3⟩
              · obtain ⟨j', i1, i2, i3⟩ := q3 _ hb
                exact ⟨j', i1, fun z => i2 (p4 _ z), i3⟩
        · cases e
      | new _ => exact other e
      | scr _ => exact other e
theorem exit_ok (hn : G.as.length = n) (o : Out K mg G H E (fun d μ' => OkP K G H μ' d Q) (exitD n d μ1)) : OkP K G H μ1 d Q := by
  intro G1 H1 v fp h1 r1 n1 b1
  unfold exitD at o
  split at o
  rotate_left
  · exact o.elim
  rename_i lo
  obtain ⟨h2, get⟩ := h1.low hn lo
  have nin : ∀ b ∈ fp, b ∉ G.as := fun b hb z => by
    obtain ⟨l, el, _⟩ := h1.ext.as
    exact (r1.out b hb).2.1 (by rw [el]; exact List.mem_append_left _ z)
  split at o
  · rename_i hp
    exact o _ _ v fp h2 (rep_low get d v fp r1 hp nin) n1 b1
  · rename_i hp
    cases d <;> try exact o.elim
    rotate_left
    · rename_i k
      simp only at o
      split at o
      rotate_left
      · exact o.elim
      rename_i xs hx
      have high : ∀ (j : Nat) (b : Addr), n ≤ j → G1.as[j]? = some b → b ∉ G.as := fun j b hj ha z => by
        obtain ⟨i, hi⟩ := List.getElem?_of_mem z
        obtain ⟨l, el, _⟩ := h1.ext.as
        have hi' : G1.as[i]? = some b := by rw [el]; exact get_append hi
        have := nodup_ix h1.cells.nd hi' ha
        have hjn := (List.getElem?_eq_some_iff.mp hi).1
        omega
      have free : ∀ (j : Nat) (b : Addr), n ≤ j → G1.as[j]? = some b → H b = none := fun j b hj ha => by
        obtain ⟨l, el, hl⟩ := h1.ext.as
        have := List.mem_of_getElem? ha
        rw [el] at this
        rcases List.mem_append.mp this with z | z
        · exact absurd z (high j b hj ha)
        · exact hl _ z
      cases r1 with
      | ptr ha =>
        rename_i a
        have hk : n ≤ k := by
          rcases Nat.lt_or_ge k n with z | z
          · exact absurd (decide_eq_true z) hp
          · exact z
        obtain ⟨q1, vs, q2, q3⟩ := h1.cells.lst k a xs ha hx
        have hna := high k a hk ha
        split at o
        · rename_i hq
          refine o _ _ (.ref a) [a] h2 (.new q1 hna q2 (repL_low get _ _ _ q3 hq (by simp))) (by simp) fun b hb => ?_
          rw [List.mem_singleton] at hb
          subst hb
          exact free k _ hk ha
        · split at o
          · rename_i ys hy
            obtain ⟨fq, p1, p2, p3⟩ := pull_ok h1 high get xs vs [k] ys q3 hy
            refine o _ _ (.ref a) (a :: fq) h2 (.new q1 hna q2 p1) (List.nodup_cons.mpr ⟨fun z => ?_, p2⟩) fun b hb => ?_
            · obtain ⟨j, k1, k2, k3⟩ := p3 _ z
              have := nodup_ix h1.cells.nd k3 ha
              exact k2 (by rw [this]; exact List.mem_singleton.mpr rfl)
            · rcases List.mem_cons.mp hb with hb | hb
              · subst hb; exact free k _ hk ha
              · obtain ⟨j, k1, k2, k3⟩ := p3 _ hb
                exact free j b k1 k3
          · exact o.elim
    · rename_i zs
      simp only at o
      split at o
      rotate_left
      · exact o.elim
      rename_i ur hy
      obtain ⟨us, sn⟩ := ur
      obtain ⟨G2, g2, r2, _⟩ := h1.settle r1 b1
      obtain ⟨h3, get⟩ := g2.low hn lo
      have high : ∀ (j : Nat) (b : Addr), n ≤ j → G2.as[j]? = some b → b ∉ G.as := fun j b hj ha z => by
        obtain ⟨i, hi⟩ := List.getElem?_of_mem z
        obtain ⟨l, el, _⟩ := g2.ext.as
        have hi' : G2.as[i]? = some b := by rw [el]; exact get_append hi
        have := nodup_ix g2.cells.nd hi' ha
        have hjn := (List.getElem?_eq_some_iff.mp hi).1
        omega
      have free : ∀ (j : Nat) (b : Addr), n ≤ j → G2.as[j]? = some b → H b = none := fun j b hj ha => by
        obtain ⟨l, el, hl⟩ := g2.ext.as
        have := List.mem_of_getElem? ha
        rw [el] at this
        rcases List.mem_append.mp this with z | z
        · exact absurd z (high j b hj ha)
        · exact hl _ z
      rw [frz] at r2
      cases r2 with
      | tup t1 t2 =>
        obtain ⟨fq, p1, p2, p3, _⟩ := pullT_ok g2 high get (frzL zs) _ [] sn us t2 hy
        exact o _ _ _ fq h3 (.tup t1 p1) p2 fun b hb => by
          obtain ⟨j, k1, k2, k4, k3⟩ := p3 _ hb
          exact free j b k1 k3
theorem body_out {F : Fn} {ds : List D} {μ : Store} {T : List Nat} {σ : L2.St} (hl : ds.length = F.ps.length) (hn : G.as.length = μ.length) (o : Out K mg G H E (fun d μ' => OkP K G H μ' d Q) (runF F ds μ)) :
    OutS K mg (fun c d _ H => E c d H) T { nx := fun _ H' => Q .non H', rt := Q } G H σ (exSs F.body (ds.map some ++ List.replicate (F.N.length - F.ps.length) none) μ) := by
  unfold runF at o
  rw [if_pos hl] at o
  cases hr : exSs F.body (ds.map some ++ List.replicate (F.N.length - F.ps.length) none) μ with
  | bad => rw [hr] at o; exact o
  | exc c μ1 =>
    rw [hr] at o
    simp only at o
    split at o
    · rename_i lo
      exact fun G' H' σ' h' _ C hC => o _ _ (h'.low hn lo).1 C hC
    · exact o.elim
  | ok fl μ1 =>
    rw [hr] at o
    cases fl with
    | nx ρ => exact fun G' H' σ' h' _ _ => exit_ok hn o G' H' .non [] h' .non List.nodup_nil (by simp)
    | bk ρ => exact o.elim
    | ct ρ => exact o.elim
    | rt d => exact exit_ok hn o
theorem rel_start {N : List Str} {vs : List V} {ds : List D} {μ : Store} {m : Nat} (c : Cells K G μ H) (r : RepL K G.F H G.as vs ds []) (hm : m = N.length - vs.length) : Rel K G (ds.map some ++ List.replicate m none) μ (start N vs) H := by
  subst hm
  refine ⟨c, by unfold L2.start; simp [r.length], fun i d h => ?_⟩
  have hi : i < ds.length := by
    by_cases hi : i < ds.length
    · exact hi
    · rw [List.getElem?_append_right (by simpa using hi), List.getElem?_replicate] at h
      split at h <;> cases h
  rw [List.getElem?_append_left (by simpa using hi), List.getElem?_map, Option.map_eq_some_iff] at h
  obtain ⟨d', h1, h2⟩ := h
  cases h2
  obtain ⟨v, hv, rv⟩ := r.get0 h1
  refine ⟨v, ?_, rv⟩
  unfold L2.start
  rw [List.getElem?_append_left (by rw [List.length_map, r.length]; exact hi), List.getElem?_map, hv]; rfl
end

section
variable {P : Program} {w : World} {K : PySem.W.Frag} {mg : Str → Option Value} {base : Heap}
/-- THE RULE: a def of the text runs as its tree says -/
theorem fnG_of {x qual : Str} {st : Stmt} {f : Addr} {fd : FuncData} {F : Fn} {k : Nat} (fn : L2.Fun K x qual st f fd) (S : FnScope F.N F.ps (defScope st)) (hc : chkSs ⟨F.N, defScope st, fun _ => true⟩ (List.range F.N.length) F.body (defBody st) = true) (n : NdSs P w K mg base k F.body) :
    FnG P w K mg base (k + 1) f fd (denF F) := by
  obtain ⟨oc, od, kV, doc, pm, an, cdv, ct, osl, rfl, lk, hcd⟩ := fn.ex
  refine ⟨fun A outer s H args us vs Q E hr hgd e0 hb rv ⟨G, μ, ds, c, r, hl, o⟩ => ?_⟩
  have KX : K.In s.heap := e0.mod.kin.keeps fun b o e => (e0.bs b o e).1
  have lim : s.heap.NoLimit := e0.mod.nolimit.keeps fun b o e => (e0.bs b o e).1
  have hvl : vs.length = F.ps.length := by rw [r.length]; exact hl
  have kinds : ∀ y ∈ F.ps.zip us, (defScope st).names.lookup y.1 = some .local ∨ ((defScope st).names.lookup y.1 = some .cell ∧ ((cellsFrom (s.heap.objs.size + 1) (defScope st).names []).lookup y.1).isSome = true) := by
    rintro ⟨y, v⟩ hy
    rcases S.par y (List.of_mem_zip hy).1 with q | q
    · exact .inl q
    · exact .inr ⟨q, PySem.W.cellsFrom_some _ _ _ (.inl q)⟩
  refine codeAny_call_function hr.depth (KX _ _ lk) rfl S.co S.gen rfl (PySem.W.codeRec_of KX hcd) (hb _ _ _ _ (wpAny_newFunctionEnv_cells S.kind kinds fun env he s1 x => ?_))
  subst he
  refine ⟨lim.keeps x.toInCall.keep, codeAny_func ?_⟩
  -- the body's context
  have I : Inv (cxOf (L2.CX P w) P w K mg base F.N qual (defScope st) f cdv A outer s H E) [] (start F.N vs) H s1 := inv_start S hr.hd e0 hvl rv x
  have ctx : CtxS ⟨F.N, defScope st, fun _ => true⟩ k (cxOf (L2.CX P w) P w K mg base F.N qual (defScope st) f cdv A outer s H E) (fun c d _ H => E c d H) :=
    { N := rfl, nd := S.nd, sc := rfl, fb := fun _ _ => rfl, calm := rfl, room := hr.deeper _, gd := hgd, tk := takes_of rfl rfl rfl rfl, kind := S.kind, own := passes_of rfl, stk := rfl, frm := rfl }
  have run := (snSs F.body ctx hc n).run [] s1 (start F.N vs) H { nx := fun _ H' => Q .non H', rt := Q } I ⟨G, _, μ, rel_start c r (by rw [hvl]), body_out hl c.len o⟩
  refine wpAny_mono run (fun fl s' hs => ?_) fun e s' hs => hs
  cases fl with
  | ret u =>
    obtain ⟨v, σ', H', J, rv', q⟩ := hs
    exact ⟨v, H', J.os, J.bare, J.base, J.hok, rv', q⟩
  | next =>
    obtain ⟨σ', H', J, q⟩ := hs
    exact ⟨.non, H', J.os, J.bare, J.base, J.hok, rfl, q⟩
  | brk =>
    obtain ⟨_, _, _, q⟩ := hs
    exact False.elim q
  | cont =>
    obtain ⟨_, _, _, q⟩ := hs
    exact False.elim q
end
end Pyf

/-! Pyf, part T: the law's call. -/
namespace Pyf
open PySem PySem.Spec PyProof.Rows L2
open PySem (Str)

/-- what the law is to say, with no program in sight -/
def Says (g : Den) (n : Nat) : Prop := ∀ ns : List Int, ns.length ≤ n → (∀ z ∈ ns, Builtin.Int.intBits z ≤ 1048576) → g.run [.scr ns] [] = .ok (.bl true) []

section
variable {P : Program} {w : World} {K : PySem.W.Frag} {mg mb : Str → Option Value} {k : Nat} {fa a : Addr} {fd : FuncData} {x : Str} {g : Den} {s₁ : Shared} {vs : List Value} {ns : List Int}
/-- the call, where H tells the script and nothing else -/
theorem law_at {H : Hp} (KX : K.In s₁.heap) (hns : s₁.heap.Ns mainGlobals mg) (hb : s₁.heap.Ns builtinsNs mb) (hbb : ∀ x : Str, x ≠ "__name__" → mb x = bootBuiltins x) (hlim : s₁.heap.NoLimit) (hg : s₁.gens = #[])
    (hr : Room k callerA) (hps : g.ps = [x]) (F : ∀ base : Heap, K.In base → base.Ns mainGlobals mg → FnG P w K mg base k fa fd g) (hbind : ∀ (s : Shared) (u : Value), BindsTo s fd ⟨[u], []⟩ [(x, u)])
    (says : g.run [.scr ns] [] = .ok (.bl true) []) (hS : SqL K H a (ns.map V.int)) (hok : HOk P w H s₁.heap) (alone : ∀ b u, H b = some u → b = a ∧ K.lookup a = none ∧ ∃ o xs, u = .frz o (.lst xs)) (ha : ∀ o, s₁.heap.get? a = some o → ∀ es n, o.data ≠ .dict es n) :
    codeAny (model P w) callerA (.call (.ref fa) ⟨[.ref a], []⟩) (fun r s' => r = .ok (.ret (.bool true)) ∧ OldK s₁.heap s'.heap ∧ s'.os = s₁.os ∧ AllBare s'.gens) s₁ := by
  have un : ∀ {b : Addr}, (∀ u, H b ≠ some u) → H b = none := fun {b} h => by
    cases q : H b with
    | none => rfl
    | some u => exact absurd q (h u)
  have ns_keep : ∀ {b : Addr} {m : Str → Option Value}, s₁.heap.Ns b m → (hidT s₁.heap H).Ns b m := by
    rintro b m ⟨o, es, ep, e, d, r⟩
    exact ⟨o, es, ep, hidT_get e (un fun u q => ha o (by rw [← (alone b u q).1]; exact e) es ep d), d, r⟩
  have KB : K.In (hidT s₁.heap H) := fun b o e => hidT_get (KX b o e) (un fun u q => by
    obtain ⟨rfl, e2, _⟩ := alone b u q
    rw [e2] at e; cases e)
  have M : Mod K mg (hidT s₁.heap H) := ⟨KB, ns_keep hns, ⟨mb, ns_keep hb, hbb⟩, by obtain ⟨mc, h1, h2⟩ := hlim; exact ⟨mc, ns_keep h1, h2⟩⟩
  have E : Env0 P w K mg (hidT s₁.heap H) callerA [] s₁ H :=
    { frames := rfl, mod := M, bs := fun b o e => of_hidT e, bsz := Nat.le_of_eq (hidT_size _ _), funs := trivial, frf := fun b z => (nomatch z), hok := hok, bare := .of_eq hg }
  have sp : spD K mg g [.ref a] H (fun v _ => v = .bl true) fun _ _ _ => False :=
    ⟨⟨H, []⟩, [], [.scr ns], ⟨Same.refl _, rfl, List.nodup_nil, fun b z => (nomatch z), fun j b ds z _ => by cases j <;> cases z⟩, RepL.cons (fp := []) (fps := []) (.scr ns hS) .nil, by rw [hps]; rfl, by
      rw [says]
      intro G' H' v fp _ r _ _
      cases r; rfl⟩
  refine codeAny_mono ((F _ KB (ns_keep hns)).run callerA [] s₁ H ⟨[.ref a], []⟩ [.ref a] [.ref a] _ _ hr rfl E (by rw [hps]; exact hbind s₁ (.ref a)) (.cons rfl .nil) sp) fun r s' q => ?_
  cases r with
  | error e =>
    obtain ⟨_, _, _, _, _, _, _, _, _, _, _, _, f⟩ := q
    exact f.elim
  | ok fl =>
    cases fl with
    | ret u =>
      obtain ⟨v, H', os, bare, keep, ok', rv, ev⟩ := q
      have e1 : v = .bl true := ev
      subst e1
      cases rv
      refine ⟨rfl, OldK.of_keep fun b o e => ?_, os, bare⟩
      cases hq : H b with
      | none => exact keep.keep b o e hq (fun z => (nomatch z)) fun z => (nomatch z)
      | some u =>
        obtain ⟨_, _, ob, xs, rfl⟩ := alone b u hq
        have h1 := (hok b _ hq).1
        have h2 := (ok' b _ (keep.frzs b ob _ hq)).1
        rw [e] at h1; cases h1
        exact h2
    | next => exact False.elim q
    | brk => exact False.elim q
    | cont => exact False.elim q
theorem law_run (KX : K.In s₁.heap) (hns : s₁.heap.Ns mainGlobals mg) (hb : s₁.heap.Ns builtinsNs mb) (hbb : ∀ x : Str, x ≠ "__name__" → mb x = bootBuiltins x) (hlim : s₁.heap.NoLimit) (hg : s₁.gens = #[])
    (ha : s₁.heap.get? a = some { cls := .type "list", data := .seq vs.toArray }) (hi : IntsAre vs ns) (hl : ns.length ≤ sizeLine) (hr : Room k callerA) (hps : g.ps = [x])
    (F : ∀ base : Heap, K.In base → base.Ns mainGlobals mg → FnG P w K mg base k fa fd g) (hbind : ∀ (s : Shared) (u : Value), BindsTo s fd ⟨[u], []⟩ [(x, u)]) (says : g.run [.scr ns] [] = .ok (.bl true) []) :
    codeAny (model P w) callerA (.call (.ref fa) ⟨[.ref a], []⟩) (fun r s' => r = .ok (.ret (.bool true)) ∧ OldK s₁.heap s'.heap ∧ s'.os = s₁.os ∧ AllBare s'.gens) s₁ := by
  have nd : ∀ o, s₁.heap.get? a = some o → ∀ es n, o.data ≠ .dict es n := fun o e es n => by rw [ha] at e; cases e; exact fun z => (nomatch z)
  have rv := vals_ints hi
  by_cases hk : ∃ o, K.lookup a = some o
  · obtain ⟨o, hk⟩ := hk
    have e := KX a o hk
    rw [ha] at e
    cases e
    exact law_at (H := fun _ => none) KX hns hb hbb hlim hg hr hps F hbind says (.inr ⟨_, vs.toArray, _, hk, rfl, rfl, rfl, by rw [List.size_toArray, hi.length]; exact hl, by simpa using rv⟩) (fun b u z => (nomatch z)) (fun b u z => (nomatch z)) nd
  · have hk : K.lookup a = none := by
      cases q : K.lookup a with
      | none => rfl
      | some o => exact absurd ⟨o, q⟩ hk
    let H : Hp := upd (fun _ => none) a (.frz { cls := .type "list", data := .seq vs.toArray } (.lst (ns.map V.int)))
    have at_a : H a = some (.frz { cls := .type "list", data := .seq vs.toArray } (.lst (ns.map V.int))) := upd_same
    have only : ∀ b u, H b = some u → b = a ∧ u = .frz { cls := .type "list", data := .seq vs.toArray } (.lst (ns.map V.int)) := fun b u q => by
      by_cases e : b = a
      · subst e; rw [at_a] at q; cases q; exact ⟨rfl, rfl⟩
      · exact absurd ((upd_ne e : H b = _).symm.trans q) (by simp)
    refine law_at (H := H) KX hns hb hbb hlim hg hr hps F hbind says (.inl (.inr ⟨_, at_a⟩)) (fun b u q => ?_) (fun b u q => ?_) nd
    · obtain ⟨rfl, rfl⟩ := only b u q
      exact ⟨ha, by rw [List.length_map]; exact hl, vs, _, rv, ha⟩
    · obtain ⟨rfl, rfl⟩ := only b u q
      exact ⟨rfl, hk, _, _, rfl⟩
end
theorem walkG {l : PySem.W.OpenLaw} {n k : Nat} {q : Program} {loose : List Str} {XP : (Str → Option Value) → Heap → Prop} {YP : World → Heap → Prop} {d : DefRec} {K : Params → PySem.W.Frag} {x : Str} {g : Den}
    (hn : l.most = some n) (hn2 : n ≤ sizeLine) (hdf : d.params.defaults = []) (hr : Room k callerA) (hY : ∀ (w : World) (h : Heap), YP w h → (K w.params).In h) (hps : g.ps = [x]) (says : Says g n)
    (F : ∀ (w : World) (mg : Str → Option Value) (fa : Addr) (h : Heap), (K w.params).In h → h.Ns mainGlobals mg → mg d.name = some (.ref fa) →
      ∃ fd : FuncData, (∀ (s : Shared) (u : Value), BindsTo s fd ⟨[u], []⟩ [(x, u)]) ∧ ∀ base : Heap, (K w.params).In base → base.Ns mainGlobals mg → FnG l.prog w (K w.params) mg base k fa fd g) :
    PySem.W.WalkO q loose XP YP l.row.toRowW d [] (fun f vs => PySem.call f vs) := by
  refine Att.attach_callB hn hdf fun w s₀ s₁ mg mb fa o pm cd doc a vs ns G Y ho hd hcd hmg hobj hints hlen hbits hg => ?_
  have KX := hY w _ Y
  obtain ⟨fd, hb, hF⟩ := F w mg fa _ KX G.T.g hmg
  exact law_run KX G.T.g G.T.b G.T.builtins G.T.nolimit hg hobj hints (Nat.le_trans hlen hn2) hr hps hF hb (says ns hlen hbits)

theorem placed_drop {us : List Value} {np : Nat} (hn : np = us.length) : ∀ (ps : List Str) (i : Nat) {zs : List Value}, i + ps.length = us.length → placed np [] us ps i = some zs → zs = us.drop i
  | [], i, zs, h, e => by
    cases e
    rw [List.drop_eq_nil_of_le]
    simp at h; omega
  | p :: ps, i, zs, h, e => by
    rw [List.length_cons] at h
    obtain ⟨d, t, e1, e2, rfl⟩ := consO_some (show consO (getK np [] us p i) (placed np [] us ps (i + 1)) = some zs from e)
    have hi : i < us.length := by omega
    unfold getK at e1
    rw [if_pos (by omega), List.getElem?_eq_getElem hi] at e1
    cases e1
    rw [List.drop_eq_getElem_cons hi, placed_drop hn ps (i + 1) (by omega) e2]
theorem bd_all {K : PySem.W.Frag} {fd : FuncData} {ps : List Str} (h : ∀ us : List Value, us.length = ps.length → bindArgs fd ⟨us, []⟩ = pure (ps.zip us)) : Bd K fd ps ps.length [] := fun s us ws zs _ h1 h2 h3 => by
  have hw : ws = [] := List.length_eq_zero_iff.mp (by simpa using h2)
  subst hw
  rw [List.append_nil] at h3
  have e := placed_drop h1.symm ps 0 (by omega) h3
  rw [List.drop_zero] at e
  rw [e]
  exact .of_eq (h us h1)
theorem Fa.mono {P : Program} {w : World} {K : PySem.W.Frag} {mg : Str → Option Value} {base : Heap} {j k : Nat} {x : Str} {g : Den} {np : Nat} {kw : List Str} (h : Fa P w K mg base j x g np kw) (hl : j ≤ k) : Fa P w K mg base k x g np kw := by
  obtain ⟨f, fd, h1, h2, h3, h4⟩ := h
  exact ⟨f, fd, h1, h2, h3.mono hl, h4⟩
end Pyf

/-! Pyf, part U: the interpreter by simp. -/
namespace Pyf
open PySem (Str PyData sizeLine)

/-- the rest of a run, which simp leaves alone till its turn -/
class Kt (α β : Type) where
  f : α → Store → Res β
def bindI {α β : Type} [k : Kt α β] (r : Res α) : Res β := r.bind k.f
@[simp ↓] theorem bind_I {α β : Type} (r : Res α) (f : α → Store → Res β) : r.bind f = @bindI α β ⟨f⟩ r := rfl
@[simp] theorem bindI_ok {α β : Type} {a : α} {μ : Store} {f : α → Store → Res β} : @bindI α β ⟨f⟩ (.ok a μ) = f a μ := rfl
@[simp] theorem bindI_exc {α β : Type} {c : Str} {μ : Store} {f : α → Store → Res β} : @bindI α β ⟨f⟩ (.exc c μ) = .exc c μ := rfl
@[simp] theorem bindI_bad {α β : Type} {f : α → Store → Res β} : @bindI α β ⟨f⟩ .bad = .bad := rfl
@[simp] theorem fl_ok' {ρ : Slots} {μ : Store} : (Res.ok ρ μ).fl = .ok (.nx ρ) μ := rfl
@[simp] theorem okA_non : okA .non = true := rfl
@[simp] theorem okA_bl (b : Bool) : okA (.bl b) = true := rfl
@[simp] theorem okA_int (i : Int) : okA (.int i) = true := rfl
@[simp] theorem okA_str (i : Str) : okA (.str i) = true := rfl
@[simp] theorem okA_scr (i : List Int) : okA (.scr i) = true := rfl
@[simp] theorem okA_ptr (i : Nat) : okA (.ptr i) = true := rfl
@[simp] theorem okA_lst (xs : List D) : okA (.lst xs) = noPtrL 0 xs := rfl
@[simp] theorem okA_tup (xs : List D) : okA (.tup xs) = noPtrL 0 xs := rfl
@[simp] theorem cellIn_lst (n : Nat) (xs : List D) : cellIn n (.lst xs) = noPtrL n xs := rfl
@[simp] theorem cellIn_dead (n : Nat) : cellIn n .dead = true := rfl
@[simp] theorem asL_lst (μ : Store) (xs : List D) : asL μ (.lst xs) = some xs := rfl
@[simp] theorem asQ_lst (μ : Store) (xs : List D) : asQ μ (.lst xs) = some xs := rfl
@[simp] theorem asJ_lst (μ : Store) (xs : List D) : asJ μ (.lst xs) = some xs := rfl
@[simp] theorem truD_lst (μ : Store) (xs : List D) : truD μ (.lst xs) = some (!xs.isEmpty) := rfl
@[simp] theorem hasTy_lst (μ : Store) (T : Ty) (xs : List D) : hasTy μ T (.lst xs) = some (T == .list) := rfl
@[simp] theorem lenD_lst (μ : Store) (xs : List D) : lenD (.lst xs) μ = .ok (.int xs.length) μ := rfl
@[simp] theorem ixD_lst (μ : Store) (xs : List D) (i : Int) : ixD μ (.lst xs) (.int i) = match L2.atI xs i with | some y => .ok y μ | none => .bad := rfl
@[simp] theorem itemsOf_lst (μ : Store) (xs : List D) : itemsOf μ (.lst xs) = some ⟨xs, []⟩ := rfl
@[simp] theorem listItems_lst (μ : Store) (xs : List D) : listItems μ (.lst xs) = some ⟨xs, []⟩ := rfl
@[simp] theorem asL_new (μ : Store) (xs : List D) : asL μ (.new xs) = some xs := rfl
@[simp] theorem asQ_new (μ : Store) (xs : List D) : asQ μ (.new xs) = some xs := rfl
@[simp] theorem asJ_new (μ : Store) (xs : List D) : asJ μ (.new xs) = some xs := rfl
@[simp] theorem truD_new (μ : Store) (xs : List D) : truD μ (.new xs) = some (!xs.isEmpty) := rfl
@[simp] theorem hasTy_new (μ : Store) (T : Ty) (xs : List D) : hasTy μ T (.new xs) = some (T == .list) := rfl
@[simp] theorem lenD_new (μ : Store) (xs : List D) : lenD (.new xs) μ = .ok (.int xs.length) μ := rfl
@[simp] theorem ixD_new (μ : Store) (xs : List D) (i : Int) : ixD μ (.new xs) (.int i) = match L2.atI xs i with | some y => .ok y μ | none => .bad := rfl
@[simp] theorem itemsOf_new (μ : Store) (xs : List D) : itemsOf μ (.new xs) = some ⟨frzL xs, []⟩ := rfl
@[simp] theorem listItems_new (μ : Store) (xs : List D) : listItems μ (.new xs) = some ⟨frzL xs, []⟩ := rfl
@[simp] theorem asL_tup (μ : Store) (xs : List D) : asL μ (.tup xs) = none := rfl
@[simp] theorem asQ_tup (μ : Store) (xs : List D) : asQ μ (.tup xs) = some xs := rfl
@[simp] theorem asJ_tup (μ : Store) (xs : List D) : asJ μ (.tup xs) = none := rfl
@[simp] theorem truD_tup (μ : Store) (xs : List D) : truD μ (.tup xs) = some (!xs.isEmpty) := rfl
@[simp] theorem hasTy_tup (μ : Store) (T : Ty) (xs : List D) : hasTy μ T (.tup xs) = some (T == .tuple) := rfl
@[simp] theorem lenD_tup (μ : Store) (xs : List D) : lenD (.tup xs) μ = .ok (.int xs.length) μ := rfl
@[simp] theorem ixD_tup (μ : Store) (xs : List D) (i : Int) : ixD μ (.tup xs) (.int i) = match L2.atI xs i with | some y => .ok y μ | none => .bad := rfl
@[simp] theorem itemsOf_tup (μ : Store) (xs : List D) : itemsOf μ (.tup xs) = some ⟨frzL xs, []⟩ := rfl
@[simp] theorem asL_scr (μ : Store) (ns : List Int) : asL μ (.scr ns) = some (ns.map .int) := rfl
@[simp] theorem asQ_scr (μ : Store) (ns : List Int) : asQ μ (.scr ns) = some (ns.map .int) := rfl
@[simp] theorem asJ_scr (μ : Store) (ns : List Int) : asJ μ (.scr ns) = none := rfl
@[simp] theorem truD_scr (μ : Store) (ns : List Int) : truD μ (.scr ns) = some (!ns.isEmpty) := rfl
@[simp] theorem hasTy_scr (μ : Store) (T : Ty) (ns : List Int) : hasTy μ T (.scr ns) = some (T == .list) := rfl
@[simp] theorem lenD_scr (μ : Store) (ns : List Int) : lenD (.scr ns) μ = .ok (.int ns.length) μ := by simp [lenD]
@[simp] theorem ixD_scr (μ : Store) (ns : List Int) (i : Int) : ixD μ (.scr ns) (.int i) = match L2.atI (ns.map .int) i with | some y => .ok y μ | none => .bad := rfl
@[simp] theorem itemsOf_scr (μ : Store) (ns : List Int) : itemsOf μ (.scr ns) = some ⟨ns.map .int, []⟩ := rfl
@[simp] theorem listItems_scr (μ : Store) (ns : List Int) : listItems μ (.scr ns) = some ⟨ns.map .int, []⟩ := rfl
@[simp] theorem asL_ptr (μ : Store) (k : Nat) : asL μ (.ptr k) = (match μ[k]? with | some (.lst xs) => some xs | _ => none) := rfl
@[simp] theorem asQ_ptr (μ : Store) (k : Nat) : asQ μ (.ptr k) = (match μ[k]? with | some (.lst xs) => some xs | _ => none) := rfl
@[simp] theorem asJ_ptr (μ : Store) (k : Nat) : asJ μ (.ptr k) = (match μ[k]? with | some (.lst xs) => some xs | _ => none) := rfl
@[simp] theorem truD_ptr (μ : Store) (k : Nat) : truD μ (.ptr k) = (match μ[k]? with | some (.lst xs) => some (!xs.isEmpty) | _ => none) := rfl
@[simp] theorem hasTy_ptr (μ : Store) (T : Ty) (k : Nat) : hasTy μ T (.ptr k) = (match μ[k]? with | some (.lst _) => some (T == .list) | _ => none) := rfl
@[simp] theorem lenD_ptr (μ : Store) (k : Nat) : lenD (.ptr k) μ = match asL μ (.ptr k) with | some ys => .ok (.int ys.length) μ | none => .bad := rfl
@[simp] theorem ixD_ptr (μ : Store) (k : Nat) (i : Int) : ixD μ (.ptr k) (.int i) = match asL μ (.ptr k) with | some ys => (match L2.atI ys i with | some y => .ok y μ | none => .bad) | none => .bad := rfl
@[simp] theorem itemsOf_ptr (μ : Store) (k : Nat) : itemsOf μ (.ptr k) = (match μ[k]? with | some (.lst xs) => some ⟨xs, [(k, xs)]⟩ | _ => none) := rfl
@[simp] theorem listItems_ptr (μ : Store) (k : Nat) : listItems μ (.ptr k) = (match μ[k]? with | some (.lst xs) => some ⟨xs, [(k, xs)]⟩ | _ => none) := rfl
@[simp] theorem asL_int (μ : Store) (i : Int) : asL μ (.int i) = none := rfl
@[simp] theorem asQ_int (μ : Store) (i : Int) : asQ μ (.int i) = none := rfl
@[simp] theorem asJ_int (μ : Store) (i : Int) : asJ μ (.int i) = none := rfl
@[simp] theorem truD_int (μ : Store) (i : Int) : truD μ (.int i) = some (i != 0) := rfl
@[simp] theorem hasTy_int (μ : Store) (T : Ty) (i : Int) : hasTy μ T (.int i) = some (T == .int) := rfl
@[simp] theorem asL_bl (μ : Store) (b : Bool) : asL μ (.bl b) = none := rfl
@[simp] theorem asQ_bl (μ : Store) (b : Bool) : asQ μ (.bl b) = none := rfl
@[simp] theorem asJ_bl (μ : Store) (b : Bool) : asJ μ (.bl b) = none := rfl
@[simp] theorem truD_bl (μ : Store) (b : Bool) : truD μ (.bl b) = some b := rfl
@[simp] theorem hasTy_bl (μ : Store) (T : Ty) (b : Bool) : hasTy μ T (.bl b) = some (T == .bool || T == .int) := rfl
@[simp] theorem asL_str (μ : Store) (s : Str) : asL μ (.str s) = none := rfl
@[simp] theorem asQ_str (μ : Store) (s : Str) : asQ μ (.str s) = none := rfl
@[simp] theorem asJ_str (μ : Store) (s : Str) : asJ μ (.str s) = none := rfl
@[simp] theorem truD_str (μ : Store) (s : Str) : truD μ (.str s) = if s.length ≤ sizeLine then some ((s.length : Int) != 0) else none := rfl
@[simp] theorem hasTy_str (μ : Store) (T : Ty) (s : Str) : hasTy μ T (.str s) = some (T == .str) := rfl
@[simp] theorem asL_non (μ : Store)  : asL μ .non = none := rfl
@[simp] theorem asQ_non (μ : Store)  : asQ μ .non = none := rfl
@[simp] theorem asJ_non (μ : Store)  : asJ μ .non = none := rfl
@[simp] theorem truD_non (μ : Store)  : truD μ .non = some false := rfl
@[simp] theorem hasTy_non (μ : Store) (T : Ty)  : hasTy μ T .non = some false := rfl
@[simp] theorem lenD_str (μ : Store) (s : Str) : lenD (.str s) μ = if s.length ≤ sizeLine then .ok (.int s.length) μ else .bad := rfl
@[simp] theorem P_of_e (f : Slots → Store → Res D) : (P.of f).e = f := rfl
@[simp] theorem P_of_t (f : Slots → Store → Res D) : (P.of f).t = fun ρ μ => (f ρ μ).bind fun x μ1 => Res.ofO (truD μ1 x) μ1 := rfl
@[simp] theorem lvOk_nil (μ : Store) : lvOk [] μ = True := by simp [lvOk]
@[simp] theorem ofO_some' {α : Type} (a : α) (μ : Store) : Res.ofO (some a) μ = .ok a μ := rfl
@[simp] theorem ofO_none' {α : Type} (μ : Store) : Res.ofO (none : Option α) μ = .bad := rfl
theorem lcS_map {tg : Tn} {tst : Slots → Store → Res Bool} {elt : Slots → Store → Res D} {ρ : Slots} {μ : Store} {α : Type} (e : α → D) (b : α → Slots) (g : α → D) :
    ∀ (xs : List α) (acc : List D), (∀ x ∈ xs, bindT tg (e x) ρ = some (b x) ∧ tst (b x) μ = .ok true μ ∧ elt (b x) μ = .ok (g x) μ) → acc.length + xs.length ≤ sizeLine → lcS tg tst elt [] ρ (xs.map e) acc μ = .ok (.new (acc ++ xs.map g)) μ
  | [], acc, _, _ => by simp [lcS]
  | x :: xs, acc, h, hl => by
    obtain ⟨h1, h2, h3⟩ := h x List.mem_cons_self
    have hlt : acc.length < sizeLine := by simp at hl; omega
    simp only [List.map_cons, lcS, lvOk_nil, if_true, h1, h2, h3, if_pos hlt]
    rw [lcS_map e b g xs (acc ++ [g x]) (fun y hy => h y (List.mem_cons_of_mem _ hy)) (by simp at hl ⊢; omega)]
    simp
theorem lcS_filter {tg : Tn} {tst : Slots → Store → Res Bool} {elt : Slots → Store → Res D} {ρ : Slots} {μ : Store} {α : Type} (e : α → D) (b : α → Slots) (p : α → Bool) (g : α → D) :
    ∀ (xs : List α) (acc : List D), (∀ x ∈ xs, bindT tg (e x) ρ = some (b x) ∧ tst (b x) μ = .ok (p x) μ ∧ (p x = true → elt (b x) μ = .ok (g x) μ)) → acc.length + xs.length ≤ sizeLine → lcS tg tst elt [] ρ (xs.map e) acc μ = .ok (.new (acc ++ (xs.filter p).map g)) μ
  | [], acc, _, _ => by simp [lcS]
  | x :: xs, acc, h, hl => by
    obtain ⟨h1, h2, h3⟩ := h x List.mem_cons_self
    have hlt : acc.length < sizeLine := by simp at hl; omega
    simp only [List.map_cons, lcS, lvOk_nil, if_true, h1, h2]
    cases hp : p x with
    | true =>
      simp only [h3 hp, if_pos hlt]
      rw [lcS_filter e b p g xs (acc ++ [g x]) (fun y hy => h y (List.mem_cons_of_mem _ hy)) (by simp at hl ⊢; omega)]
      simp [hp]
    | false =>
      simp only
      rw [lcS_filter e b p g xs acc (fun y hy => h y (List.mem_cons_of_mem _ hy)) (by simp at hl ⊢; omega)]
      simp [hp]
/-! while, by steps -/
theorem whileN_mono {c : Slots → Store → Res Bool} {b : Slots → Store → Res Fl} : ∀ {n : Nat} {ρ : Slots} {μ : Store} {r : Res Fl}, whileN c b n ρ μ = some r → ∀ m, n ≤ m → whileN c b m ρ μ = some r
  | 0, _, _, _, h, _, _ => by cases h
  | n + 1, ρ, μ, r, h, 0, hm => by omega
  | n + 1, ρ, μ, r, h, m + 1, hm => by
    simp only [whileN] at h ⊢
    cases hc : c ρ μ with
    | bad => rw [hc] at h; exact h
    | exc e μ1 => rw [hc] at h; exact h
    | ok t μ1 =>
      rw [hc] at h
      cases t with
      | false => exact h
      | true =>
        simp only at h ⊢
        cases hb : b ρ μ1 with
        | bad => rw [hb] at h; exact h
        | exc e μ2 => rw [hb] at h; exact h
        | ok fl μ2 =>
          rw [hb] at h
          cases fl with
          | nx ρ' => exact whileN_mono h m (by omega)
          | ct ρ' => exact whileN_mono h m (by omega)
          | bk ρ' => exact h
          | rt d => exact h
theorem whileS_of {c : Slots → Store → Res Bool} {b : Slots → Store → Res Fl} {n : Nat} {ρ : Slots} {μ : Store} {r : Res Fl} (h : whileN c b n ρ μ = some r) : whileS c b ρ μ = r := by
  have hex : ∃ n r, whileN c b n ρ μ = some r := ⟨n, r, h⟩
  unfold whileS
  rw [dif_pos hex]
  have h2 := hex.choose_spec.choose_spec
  have a := whileN_mono h (max n hex.choose) (Nat.le_max_left _ _)
  have b' := whileN_mono h2 (max n hex.choose) (Nat.le_max_right _ _)
  rw [a] at b'
  exact (Option.some.inj b').symm
theorem whileS_stop {c : Slots → Store → Res Bool} {b : Slots → Store → Res Fl} {ρ : Slots} {μ μ1 : Store} (h : c ρ μ = .ok false μ1) : whileS c b ρ μ = .ok (.nx ρ) μ1 := whileS_of (n := 1) (by simp [whileN, h])
/-- by a measure: what a turn leads to ends as told -/
theorem whileS_turn {c : Slots → Store → Res Bool} {b : Slots → Store → Res Fl} {ρ ρ' : Slots} {μ μ1 μ2 : Store} {r : Res Fl} (h : c ρ μ = .ok true μ1) (hb : b ρ μ1 = .ok (.nx ρ') μ2) (hr : ∃ n, whileN c b n ρ' μ2 = some r) : ∃ n, whileN c b n ρ μ = some r := by
  obtain ⟨n, hn⟩ := hr
  exact ⟨n + 1, by simp [whileN, h, hb, hn]⟩
end Pyf

/-! Pyf, part V: sizes, equality, words. -/
namespace Pyf
open PySem (Str PyData sizeLine)

@[simp] theorem denF_run (F : Fn) : (denF F).run = runF F := rfl
@[simp] theorem denF_ps (F : Fn) : (denF F).ps = F.ps := rfl
@[simp] theorem sizeLine_val : sizeLine = 16777216 := rfl
/-- trees whose equality is plain: ints, bools, None, lists and tuples of such, no deeper than n -/
inductive Pl : Nat → D → PyData → Prop where
  | non (n : Nat) : Pl n .non .none
  | bl (n : Nat) (b : Bool) : Pl n (.bl b) (.bool b)
  | int (n : Nat) (i : Int) : Pl n (.int i) (.int i)
  | lst {n : Nat} {xs : List D} {ps : List PyData} : xs.length = ps.length → (∀ (i : Nat) (x : D) (p : PyData), xs[i]? = some x → ps[i]? = some p → Pl n x p) → Pl (n + 1) (.lst xs) (.list ps)
  | new {n : Nat} {xs : List D} {ps : List PyData} : xs.length = ps.length → (∀ (i : Nat) (x : D) (p : PyData), xs[i]? = some x → ps[i]? = some p → Pl n x p) → Pl (n + 1) (.new xs) (.list ps)
  | tup {n : Nat} {xs : List D} {ps : List PyData} : xs.length = ps.length → (∀ (i : Nat) (x : D) (p : PyData), xs[i]? = some x → ps[i]? = some p → Pl n x p) → Pl (n + 1) (.tup xs) (.tuple ps)
theorem mapO_of {f : D → Option PyData} : ∀ {xs : List D} {ps : List PyData}, xs.length = ps.length → (∀ (i : Nat) (x : D) (p : PyData), xs[i]? = some x → ps[i]? = some p → f x = some p) → mapO f xs = some ps
  | [], [], _, _ => rfl
  | [], _ :: _, h, _ => by simp at h
  | _ :: _, [], h, _ => by simp at h
  | x :: xs, p :: ps, h, k => by
    have h1 := k 0 x p rfl rfl
    have h2 := mapO_of (xs := xs) (ps := ps) (by simpa using h) fun i y q e1 e2 => k (i + 1) y q (by simpa using e1) (by simpa using e2)
    simp only [mapO, h1, h2]
theorem all_lay : ∀ {ps : List PyData}, (∀ (i : Nat) (p : PyData), ps[i]? = some p → p.canLay0 = true) → PyData.canLayAll0 ps = true
  | [], _ => rfl
  | p :: ps, h => by simp only [PyData.canLayAll0, h 0 p rfl, all_lay fun i q e => h (i + 1) q (by simpa using e)]; rfl
theorem all_dep {n : Nat} : ∀ {ps : List PyData}, (∀ (i : Nat) (p : PyData), ps[i]? = some p → p.depth ≤ n) → PyData.depthAll ps ≤ n
  | [], _ => Nat.zero_le _
  | p :: ps, h => by
    simp only [PyData.depthAll]
    exact Nat.max_le.mpr ⟨h 0 p rfl, all_dep fun i q e => h (i + 1) q (by simpa using e)⟩
theorem Pl.ok {μ : Store} : ∀ {n : Nat} {d : D} {p : PyData}, Pl n d p → ∀ m, n < m → toP μ m d = some p ∧ p.canLay0 = true ∧ p.depth ≤ n := by
  intro n d p h
  induction h with
  | non n => intro m hm; cases m with
    | zero => omega
    | succ m => exact ⟨rfl, rfl, Nat.zero_le _⟩
  | bl n b => intro m hm; cases m with
    | zero => omega
    | succ m => exact ⟨rfl, rfl, Nat.zero_le _⟩
  | int n i => intro m hm; cases m with
    | zero => omega
    | succ m => exact ⟨rfl, rfl, Nat.zero_le _⟩
  | @lst n xs ps hl hk ih =>
    intro m hm
    cases m with
    | zero => omega
    | succ m =>
      have get : ∀ (i : Nat) (p : PyData), ps[i]? = some p → ∃ x, xs[i]? = some x := fun i p e => ⟨_, List.getElem?_eq_getElem (by rw [hl]; exact (List.getElem?_eq_some_iff.mp e).1)⟩
      refine ⟨?_, ?_, ?_⟩
      · simp only [toP]
        rw [mapO_of hl fun i x p e1 e2 => (ih i x p e1 e2 m (by omega)).1]; rfl
      · exact all_lay fun i p e => by obtain ⟨x, q⟩ := get i p e; exact (ih i x p q e (n + 1) (by omega)).2.1
      · exact Nat.succ_le_succ (all_dep fun i p e => by obtain ⟨x, q⟩ := get i p e; exact (ih i x p q e (n + 1) (by omega)).2.2)
  | @new n xs ps hl hk ih =>
    intro m hm
    cases m with
    | zero => omega
    | succ m =>
      have get : ∀ (i : Nat) (p : PyData), ps[i]? = some p → ∃ x, xs[i]? = some x := fun i p e => ⟨_, List.getElem?_eq_getElem (by rw [hl]; exact (List.getElem?_eq_some_iff.mp e).1)⟩
      refine ⟨?_, ?_, ?_⟩
      · simp only [toP]
        rw [mapO_of hl fun i x p e1 e2 => (ih i x p e1 e2 m (by omega)).1]; rfl
      · exact all_lay fun i p e => by obtain ⟨x, q⟩ := get i p e; exact (ih i x p q e (n + 1) (by omega)).2.1
      · exact Nat.succ_le_succ (all_dep fun i p e => by obtain ⟨x, q⟩ := get i p e; exact (ih i x p q e (n + 1) (by omega)).2.2)
  | @tup n xs ps hl hk ih =>
    intro m hm
    cases m with
    | zero => omega
    | succ m =>
      have get : ∀ (i : Nat) (p : PyData), ps[i]? = some p → ∃ x, xs[i]? = some x := fun i p e => ⟨_, List.getElem?_eq_getElem (by rw [hl]; exact (List.getElem?_eq_some_iff.mp e).1)⟩
      refine ⟨?_, ?_, ?_⟩
      · simp only [toP]
        rw [mapO_of hl fun i x p e1 e2 => (ih i x p e1 e2 m (by omega)).1]; rfl
      · exact all_lay fun i p e => by obtain ⟨x, q⟩ := get i p e; exact (ih i x p q e (n + 1) (by omega)).2.1
      · exact Nat.succ_le_succ (all_dep fun i p e => by obtain ⟨x, q⟩ := get i p e; exact (ih i x p q e (n + 1) (by omega)).2.2)
theorem Pl.shaped {n : Nat} {d : D} {p : PyData} (h : Pl n d p) (hn : n ≤ 30) : PySem.SeqAt.shaped p = true := by
  obtain ⟨_, h2, h3⟩ := h.ok (μ := []) (n + 1) (by omega)
  unfold PySem.SeqAt.shaped
  rw [h2, decide_eq_true (show p.depth ≤ 64 by omega)]; rfl
theorem eqD_pl {μ : Store} {n m : Nat} {d e : D} {p q : PyData} (h : Pl n d p) (h' : Pl m e q) (hn : n ≤ 30) (hm : m ≤ 30) : eqD μ d e = some (PyData.eqv p q) := by
  unfold eqD
  rw [(h.ok (μ := μ) 40 (by omega)).1, (h'.ok (μ := μ) 40 (by omega)).1]
  have e1 := h.shaped hn
  have e2 := h'.shaped hm
  simp only [e1, e2, Bool.and_self, if_true]
theorem eqD_same {μ : Store} {n m : Nat} {d e : D} {p : PyData} (h : Pl n d p) (h' : Pl m e p) (hn : n ≤ 30) (hm : m ≤ 30) : eqD μ d e = some true := by
  rw [eqD_pl h h' hn hm, PySem.SeqAt.eqv_refl p (h.ok (μ := []) (n + 1) (by omega)).2.1]
@[simp] theorem eqD_int (μ : Store) (i j : Int) : eqD μ (.int i) (.int j) = some (decide (i = j)) := by
  rw [eqD_pl (.int 0 i) (.int 0 j) (by omega) (by omega)]
  simp only [PyData.eqv]
  congr 1
@[simp] theorem eqD_bl (μ : Store) (i j : Bool) : eqD μ (.bl i) (.bl j) = some (i == j) := by
  rw [eqD_pl (.bl 0 i) (.bl 0 j) (by omega) (by omega)]
  cases i <;> cases j <;> simp [PyData.eqv]

@[simp] theorem boolsOf_map {α : Type} (f : α → Bool) : ∀ xs : List α, boolsOf (xs.map fun x => .bl (f x)) = some (xs.map f)
  | [] => rfl
  | x :: xs => by simp [boolsOf, boolsOf_map f xs]
@[simp] theorem intsOf_map {α : Type} (f : α → Int) : ∀ xs : List α, intsOf (xs.map fun x => .int (f x)) = some (xs.map f)
  | [] => rfl
  | x :: xs => by simp [intsOf, intsOf_map f xs]
theorem enumL_map {α : Type} (f : α → D) : ∀ (xs : List α) (n : Nat), enumL n (xs.map f) = (xs.zipIdx n).map fun q => .tup [.int (q.2 : Int), f q.1]
  | [], _ => rfl
  | x :: xs, n => by simp [enumL, enumL_map f xs (n + 1)]
@[simp] theorem cut_take (xs : List D) (i : Nat) (h : i ≤ xs.length) : cutD xs none (some (i : Int)) = xs.take i := by
  unfold cutD
  rw [HT.sIx_none, HT.sIx_nat, Nat.min_eq_left h]
  rfl
theorem noPtrL_map {α : Type} (f : α → D) (h : ∀ x, noPtr 0 (f x) = true) : ∀ xs : List α, noPtrL 0 (xs.map f) = true
  | [] => rfl
  | x :: xs => by simp [h x, noPtrL_map f h xs]
theorem frzL_map {α : Type} (f : α → D) (h : ∀ x, frz (f x) = f x) : ∀ xs : List α, frzL (xs.map f) = xs.map f
  | [] => rfl
  | x :: xs => by simp [h x, frzL_map f h xs]
/-- pairs of ints -/
def dP (p : Int × Int) : D := .tup [.int p.1, .int p.2]
@[simp] theorem frz_dP (p : Int × Int) : frz (dP p) = dP p := rfl
@[simp] theorem noPtr_dP (n : Nat) (p : Int × Int) : noPtr n (dP p) = true := rfl
@[simp] theorem okA_dP (p : Int × Int) : okA (dP p) = true := rfl
@[simp] theorem ptrs_dP (p : Int × Int) (ds : List D) : ptrs (dP p :: ds) = ptrs ds := rfl
@[simp] theorem renum_dP (n : Nat) (p : Int × Int) (ds : List D) : renum n (dP p :: ds) = dP p :: renum n ds := rfl
@[simp] theorem asQ_dP (μ : Store) (p : Int × Int) : asQ μ (dP p) = some [.int p.1, .int p.2] := rfl
@[simp] theorem atI0 (x : D) (xs : List D) : L2.atI (x :: xs) 0 = some x := by simp [L2.atI, L2.ixN]
@[simp] theorem atI1 (x y : D) (xs : List D) : L2.atI (x :: y :: xs) 1 = some y := by
  have : (1 : Int) < (xs.length : Int) + 1 + 1 := by omega
  simp [L2.atI, L2.ixN, this]
@[simp] theorem atI2 (x y z : D) (xs : List D) : L2.atI (x :: y :: z :: xs) 2 = some z := by
  have : (2 : Int) < (xs.length : Int) + 1 + 1 + 1 := by omega
  simp [L2.atI, L2.ixN, this]
@[simp] theorem hasTy_dP (μ : Store) (T : Ty) (p : Int × Int) : hasTy μ T (dP p) = some (T == .tuple) := rfl
@[simp] theorem lenD_dP (μ : Store) (p : Int × Int) : lenD (dP p) μ = .ok (.int 2) μ := rfl
@[simp] theorem ixD_dP0 (μ : Store) (p : Int × Int) : ixD μ (dP p) (.int 0) = .ok (.int p.1) μ := by simp [dP]
@[simp] theorem ixD_dP1 (μ : Store) (p : Int × Int) : ixD μ (dP p) (.int 1) = .ok (.int p.2) μ := by simp [dP]
@[simp] theorem frzL_dP (xs : List (Int × Int)) : frzL (xs.map dP) = xs.map dP := frzL_map dP frz_dP xs
@[simp] theorem noPtrL_dP (xs : List (Int × Int)) : noPtrL 0 (xs.map dP) = true := noPtrL_map dP (noPtr_dP 0) xs
@[simp] theorem frzL_ints {α : Type} (f : α → Int) (xs : List α) : frzL (xs.map fun x => .int (f x)) = xs.map fun x => .int (f x) := frzL_map _ (fun _ => rfl) xs
@[simp] theorem noPtrL_ints {α : Type} (f : α → Int) (xs : List α) : noPtrL 0 (xs.map fun x => .int (f x)) = true := noPtrL_map _ (fun _ => rfl) xs

theorem bits_lt {i : Int} {n : Nat} (h : i.natAbs < 2 ^ n) : PySem.Builtin.Int.intBits i ≤ n := PyProof.Rows.intBits_le h
theorem mulOk_of {i j : Int} (n m : Nat) (hi : i.natAbs < 2 ^ n) (hj : j.natAbs < 2 ^ m) (h : n + m ≤ 134217728) : mulOk i j = true := by
  have h1 := bits_lt hi
  have h2 := bits_lt hj
  unfold mulOk
  exact decide_eq_true (by omega)
theorem powOk_of {i j : Int} (n : Nat) (hi : i.natAbs < 2 ^ n) (hj : 0 ≤ j) (hk : j ≤ 1000) (h : n ≤ 100000) : powOk i j = true := by
  have h1 := bits_lt hi
  unfold powOk
  rw [Bool.and_eq_true]
  refine ⟨decide_eq_true hj, decide_eq_true ?_⟩
  have : PySem.Builtin.Int.intBits i * j.toNat ≤ 100000 * 1000 := Nat.mul_le_mul (by omega) (by omega)
  omega
theorem divOk_of {j : Int} (h0 : 0 < j) (n : Nat) (hj : j.natAbs < 2 ^ n) (h : n ≤ 9000) : divOk j = true := by
  unfold divOk
  rw [Bool.and_eq_true]
  refine ⟨decide_eq_true h0, decide_eq_true ?_⟩
  refine Nat.lt_of_lt_of_le (Nat.log2_lt (by omega) |>.mpr hj) h
theorem all_congr_mem {α : Type} {f g : α → Bool} : ∀ {xs : List α}, (∀ x ∈ xs, f x = g x) → xs.all f = xs.all g
  | [], _ => rfl
  | x :: xs, h => by rw [List.all_cons, List.all_cons, h x List.mem_cons_self, all_congr_mem fun y hy => h y (List.mem_cons_of_mem _ hy)]

/-! ### loops by an invariant -/
theorem forS_inv {tg : Tn} {b : Slots → Store → Res Fl} (I : Nat → Slots → Store → Prop) : ∀ (ds : List D) (i : Nat) (ρ : Slots) (μ : Store), I i ρ μ →
    (∀ (j : Nat) (d : D) (ρ : Slots) (μ : Store), ds[j]? = some d → I (i + j) ρ μ → ∃ ρ1 ρ2 μ2, bindT tg d ρ = some ρ1 ∧ b ρ1 μ = .ok (.nx ρ2) μ2 ∧ I (i + j + 1) ρ2 μ2) →
    ∃ ρ2 μ2, forS tg b [] ds ρ μ = .ok (.nx ρ2) μ2 ∧ I (i + ds.length) ρ2 μ2
  | [], i, ρ, μ, h, _ => ⟨ρ, μ, by simp [forS], h⟩
  | d :: ds, i, ρ, μ, h, k => by
    obtain ⟨ρ1, ρ2, μ2, h1, h2, h3⟩ := k 0 d ρ μ rfl h
    obtain ⟨ρ3, μ3, h4, h5⟩ := forS_inv I ds (i + 1) ρ2 μ2 h3 fun j d' ρ μ hj hi => by
      have := k (j + 1) d' ρ μ (by simpa using hj) (by rw [show i + (j + 1) = i + 1 + j by omega]; exact hi)
      rwa [show i + (j + 1) + 1 = i + 1 + j + 1 by omega] at this
    exact ⟨ρ3, μ3, by simp only [forS, lvOk_nil, if_true, h1, h2, h4], by rw [List.length_cons, show i + (ds.length + 1) = i + 1 + ds.length by omega]; exact h5⟩
theorem lcS_inv {tg : Tn} {elt : Slots → Store → Res D} {ρ : Slots} (I : Nat → Store → Prop) (P : D → Prop) : ∀ (ds acc : List D) (i : Nat) (μ : Store), I i μ → acc.length + ds.length ≤ 16777216 →
    (∀ (j : Nat) (d : D) (μ : Store), ds[j]? = some d → I (i + j) μ → ∃ ρ1 y μ2, bindT tg d ρ = some ρ1 ∧ elt ρ1 μ = .ok y μ2 ∧ I (i + j + 1) μ2 ∧ P y) →
    ∃ ys μ2, lcS tg (evTs .nil) elt [] ρ ds acc μ = .ok (.new (acc ++ ys)) μ2 ∧ I (i + ds.length) μ2 ∧ ys.length = ds.length ∧ ∀ y ∈ ys, P y
  | [], acc, i, μ, h, _, _ => ⟨[], μ, by simp [lcS], h, rfl, by simp⟩
  | d :: ds, acc, i, μ, h, hl, k => by
    obtain ⟨ρ1, y, μ2, h1, h2, h3, h4⟩ := k 0 d μ rfl h
    have hlt : acc.length < sizeLine := by simp at hl ⊢; omega
    obtain ⟨ys, μ3, h5, h6, h7, h8⟩ := lcS_inv I P ds (acc ++ [y]) (i + 1) μ2 h3 (by simp at hl ⊢; omega) fun j d' μ hj hi => by
      have := k (j + 1) d' μ (by simpa using hj) (by rw [show i + (j + 1) = i + 1 + j by omega]; exact hi)
      rwa [show i + (j + 1) + 1 = i + 1 + j + 1 by omega] at this
    refine ⟨y :: ys, μ3, ?_, by rw [List.length_cons, show i + (ds.length + 1) = i + 1 + ds.length by omega]; exact h6, by simp [h7], fun z hz => ?_⟩
    · have ht : evTs .nil ρ1 μ = .ok true μ := rfl
      simp only [lcS, lvOk_nil, if_true, h1, h2, ht, if_pos hlt, h5]
      simp
    · rcases List.mem_cons.mp hz with rfl | hz
      · exact h4
      · exact h8 z hz
theorem dP_list {ys : List D} (h : ∀ y ∈ ys, ∃ p, y = dP p) : ∃ ps : List (Int × Int), ys = ps.map dP := by
  induction ys with
  | nil => exact ⟨[], rfl⟩
  | cons y ys ih =>
    obtain ⟨p, rfl⟩ := h y List.mem_cons_self
    obtain ⟨ps, rfl⟩ := ih fun z hz => h z (List.mem_cons_of_mem _ hz)
    exact ⟨p :: ps, rfl⟩

/-! ### one cell of three numbers, handed on -/
def C3 (a b c : Int) : Cell := .lst [.int a, .int b, .int c]
def At3 (Q : Int → Int → Int → Prop) (k : Nat) (μ : Store) : Prop := ∃ a b c, μ[k]? = some (C3 a b c) ∧ Q a b c
theorem call3 {f : Fn} {Q Q' : Int → Int → Int → Prop} {P : D → Prop} {k : Nat} {μ : Store} {xs : List D} (hps : xs.length + 1 = f.ps.length) (hx : frzL xs = xs) (hn : noPtrL 0 xs = true) (h : At3 Q k μ)
    (spec : ∀ a b c, Q a b c → ∃ d a' b' c', runF f (.ptr 0 :: xs) [C3 a b c] = .ok d [C3 a' b' c'] ∧ Q' a' b' c' ∧ noPtr 0 d = true ∧ P d) : ∃ d μ', callD (denF f) (.ptr k :: xs) μ = .ok d μ' ∧ At3 Q' k μ' ∧ μ'.length = μ.length ∧ P d := by
  obtain ⟨a, b, c, h1, h2⟩ := h
  obtain ⟨d, a', b', c', h3, h4, h5, h6⟩ := spec a b c h2
  have pt : ∀ ys : List D, noPtrL 0 ys = true → ptrs ys = [] ∧ (∀ n, renum n ys = ys) ∧ ys.all okA = true := fun ys => by
    induction ys with
    | nil => intro _; exact ⟨rfl, fun _ => rfl, rfl⟩
    | cons y ys ih =>
      intro hy
      rw [noPtrL, Bool.and_eq_true] at hy
      obtain ⟨i1, i2, i3⟩ := ih hy.2
      cases y with
      | ptr k => simp at hy
      | _ => exact ⟨i1, fun n => by simp only [renum, i2], by rw [List.all_cons, i3, Bool.and_true]; exact hy.1⟩
  obtain ⟨p1, p2, p3⟩ := pt xs hn
  have hk : k < μ.length := (List.getElem?_eq_some_iff.mp h1).1
  refine ⟨d, μ.set k (C3 a' b' c'), ?_, ⟨a', b', c', List.getElem?_set_self hk, h4⟩, List.length_set .., h6⟩
  have e1 : (D.ptr k :: xs).length = (denF f).ps.length := by simpa using hps
  have e2 : frzL (D.ptr k :: xs) = .ptr k :: xs := by simp [frzL, frz, hx]
  have e3 : ptrs (D.ptr k :: xs) = [k] := by simp [ptrs, p1]
  have e4 : renum 0 (D.ptr k :: xs) = .ptr 0 :: xs := by simp [renum, p2]
  have e5 : (D.ptr k :: xs).all okA = true := by rw [List.all_cons, p3]; rfl
  have e6 : getCs μ [k] = some [C3 a b c] := by simp only [getCs, h1, C3]; rfl
  unfold callD
  rw [e2, e3, e4, if_pos ⟨e1, e5, by simp⟩, e6]
  simp only [denF_run, h3, h5]
  rw [if_pos ⟨trivial, rfl, rfl⟩]
  rfl
theorem atI_nat {α : Type} (xs : List α) (i : Nat) (h : i < xs.length) : L2.atI xs (i : Int) = xs[i]? := by
  have h1 : (i : Int) < (xs.length : Int) := by omega
  simp [L2.atI, L2.ixN, h1]

theorem Pl_ints {α : Type} (f : α → Int) (xs : List α) : Pl 1 (.lst (xs.map fun q => .int (f q))) (.list (xs.map fun q => .int (f q))) :=
  .lst (by simp) fun i x p h1 h2 => by
    rw [List.getElem?_map, Option.map_eq_some_iff] at h1 h2
    obtain ⟨a, e1, rfl⟩ := h1
    obtain ⟨b, e2, rfl⟩ := h2
    rw [e1] at e2; cases e2
    exact .int _ _
theorem Pl_dP (p : Int × Int) : Pl 1 (dP p) (.tuple [.int p.1, .int p.2]) :=
  .tup rfl fun i x q h1 h2 => by
    match i, h1, h2 with
    | 0, h1, h2 => cases h1; cases h2; exact .int _ _
    | 1, h1, h2 => cases h1; cases h2; exact .int _ _
    | i + 2, h1, h2 => simp at h1
theorem Pl_dPs (xs : List (Int × Int)) : Pl 2 (.lst (xs.map dP)) (.list (xs.map fun p => .tuple [.int p.1, .int p.2])) :=
  .lst (by simp) fun i x p h1 h2 => by
    rw [List.getElem?_map, Option.map_eq_some_iff] at h1 h2
    obtain ⟨a, e1, rfl⟩ := h1
    obtain ⟨b, e2, rfl⟩ := h2
    rw [e1] at e2; cases e2
    exact Pl_dP a
theorem eqD_nil {α : Type} (μ : Store) (f : α → Int) (xs : List α) : eqD μ (.lst (xs.map fun q => .int (f q))) (.new []) = some xs.isEmpty := by
  rw [eqD_pl (Pl_ints f xs) (.new (n := 0) (ps := []) rfl fun i x p h _ => by simp at h) (by omega) (by omega)]
  cases xs <;> simp [PyData.eqv, PyData.eqvAll]
theorem eqD_dPs (μ : Store) (xs : List (Int × Int)) : eqD μ (.lst (xs.map dP)) (.lst (xs.map dP)) = some true := eqD_same (Pl_dPs xs) (Pl_dPs xs) (by omega) (by omega)
@[simp] theorem repr_bl (b : Bool) (μ : Store) : reprD (.bl b) μ = .ok (.str (if b = true then "True" else "False")) μ := by
  cases b <;> rfl
@[simp] theorem eqD_word (μ : Store) (b c : Bool) : eqD μ (.str (if b = true then "True" else "False")) (.str (if c = true then "True" else "False")) = some (b == c) := by
  cases b <;> cases c <;> (with_unfolding_all rfl)

theorem lc_of {elt : E} {tg : Tn} {it : I} {cs : Es} {ρ : Slots} {μ μ1 : Store} {ds : List D} {lv : List (Nat × List D)} {r : Res D} (h : evI it ρ μ = .ok ⟨ds, lv⟩ μ1) (h' : lcS tg (evTs cs) (ev elt).e lv ρ ds [] μ1 = r) : (ev (.lc elt tg it cs)).e ρ μ = r := by
  show (Res.bind _ _) = _
  rw [h]; exact h'
theorem fr_of {tg : Tn} {it : I} {b : Ss} {ρ : Slots} {μ μ1 : Store} {ds : List D} {lv : List (Nat × List D)} {r : Res Fl} (h : evI it ρ μ = .ok ⟨ds, lv⟩ μ1) (h' : forS tg (exSs b) lv ds ρ μ1 = r) : exS (.frs tg it b) ρ μ = r := by
  show (Res.bind _ _) = _
  rw [h]; exact h'
end Pyf

/-! Pyf, part W: the texts of trees. -/
namespace Pyf
open PySem (Str PyData sizeLine)
/-- every sign of the text is one -/
def Ps (s : Str) : Prop := ∀ c ∈ s.cps.toList, c < 0x110000
theorem Ps.append {a b : Str} (ha : Ps a) (hb : Ps b) : Ps (a ++ b) := by
  intro c hc
  have e : (a ++ b).cps = a.cps ++ b.cps := rfl
  rw [e, Array.toList_append, List.mem_append] at hc
  exact hc.elim (ha c) (hb c)
theorem Ps.ofString (s : String) : Ps (Str.ofString s) := by
  intro c hc
  rw [PySem.Str.ofString_eq_toList] at hc
  simp only [List.mem_map] at hc
  obtain ⟨ch, _, rfl⟩ := hc
  have h := ch.valid
  have e : ch.val.toNat = ch.toNat := rfl
  rcases h with h | ⟨_, h⟩
  · omega
  · omega
theorem Ps.from : ∀ (ts : List Str) (k : Nat) (acc : Str), Ps acc → (∀ t ∈ ts, Ps t) → Ps (PySem.textFrom k acc ts)
  | [], k, acc, h, _ => h
  | t :: ts, k, acc, h, ht => Ps.from ts (k + 1) _ ((h.append (Ps.ofString _)).append (ht t List.mem_cons_self)) fun x hx => ht x (List.mem_cons_of_mem _ hx)
theorem Ps.list {ts : List Str} (h : ∀ t ∈ ts, Ps t) : Ps (PySem.listText ts) := (Ps.from ts 0 _ (Ps.ofString _) h).append (Ps.ofString _)
theorem Ps.join : ∀ {ts : List Str}, (∀ t ∈ ts, Ps t) → Ps (Str.join ", " ts)
  | [], _ => fun c hc => by
    have e : (Str.join ", " []).cps = #[] := rfl
    rw [e] at hc; simp at hc
  | [x], h => h x List.mem_cons_self
  | x :: y :: ts, h => ((h x List.mem_cons_self).append (Ps.ofString _)).append (Ps.join fun t ht => h t (List.mem_cons_of_mem _ ht))
theorem Ps.tuple {ts : List Str} (h : ∀ t ∈ ts, Ps t) : Ps (PySem.tupleText ts) := ((Ps.ofString _).append (Ps.join h)).append (Ps.ofString _)
theorem shownAll_map : ∀ ps : List PyData, PyData.shownAll ps = ps.map PyData.shown
  | [] => rfl
  | p :: ps => by simp only [PyData.shownAll, List.map_cons, shownAll_map ps]
theorem all_show : ∀ {ps : List PyData}, (∀ p ∈ ps, p.showable = true) → PyData.showableAll ps = true
  | [], _ => rfl
  | p :: ps, h => by simp only [PyData.showableAll, h p List.mem_cons_self, all_show fun q e => h q (List.mem_cons_of_mem _ e)]; rfl
theorem all_nodict : ∀ {ps : List PyData}, (∀ p ∈ ps, p.hasDict = false) → PyData.hasDictAll ps = false
  | [], _ => rfl
  | p :: ps, h => by simp only [PyData.hasDictAll, h p List.mem_cons_self, all_nodict fun q e => h q (List.mem_cons_of_mem _ e)]; rfl
theorem sum_lens {ts : List Str} {L : Nat} (h : ∀ t ∈ ts, t.length ≤ L) : (ts.map (·.length)).sum ≤ ts.length * L := by
  induction ts with
  | nil => simp
  | cons t ts ih =>
    have h1 := h t List.mem_cons_self
    have h2 := ih fun x hx => h x (List.mem_cons_of_mem _ hx)
    rw [List.map_cons, List.sum_cons, List.length_cons, Nat.add_mul, Nat.one_mul]
    omega
/-- the text of a plain tree: no longer than L -/
structure Rp (n : Nat) (d : D) (p : PyData) (L : Nat) : Prop where
  pl : Pl n d p
  sh : p.showable = true
  nd : p.hasDict = false
  le : p.shown.length ≤ L
  ok : Ps p.shown
theorem Rp.non (n : Nat) : Rp n .non .none 4 := ⟨.non n, rfl, rfl, by decide, Ps.ofString _⟩
theorem Rp.bl (n : Nat) (b : Bool) : Rp n (.bl b) (.bool b) 5 := ⟨.bl n b, rfl, rfl, by cases b <;> decide, by cases b <;> exact Ps.ofString _⟩
theorem Rp.int (n : Nat) {i : Int} {k : Nat} (h : i.natAbs.log2 < k) (hk : k ≤ 1920) : Rp n (.int i) (.int i) (k + 1) := by
  refine ⟨.int n i, ?_, rfl, ?_, Ps.ofString _⟩
  · simp only [PyData.showable]; exact decide_eq_true (by omega)
  · have h1 := PySem.int_text_length_le (a := i) (k := k) (by omega) h
    have e : (PyData.shown (.int i)).length = (toString i).length := PySem.ofString_length _
    omega
theorem Rp.mono {n L L' : Nat} {d : D} {p : PyData} (h : Rp n d p L) (hl : L ≤ L') : Rp n d p L' := ⟨h.pl, h.sh, h.nd, Nat.le_trans h.le hl, h.ok⟩
section
variable {n L : Nat} {xs : List D} {ps : List PyData}
theorem Rp.items (hl : xs.length = ps.length) (h : ∀ (i : Nat) (x : D) (p : PyData), xs[i]? = some x → ps[i]? = some p → Rp n x p L) : ∀ p ∈ ps, p.showable = true ∧ p.hasDict = false ∧ p.shown.length ≤ L ∧ Ps p.shown := fun p hp => by
  obtain ⟨i, hi, rfl⟩ := List.mem_iff_getElem.mp hp
  have q := h i xs[i] ps[i] (List.getElem?_eq_getElem (by omega)) (List.getElem?_eq_getElem hi)
  exact ⟨q.sh, q.nd, q.le, q.ok⟩
theorem Rp.lst (hl : xs.length = ps.length) (h : ∀ (i : Nat) (x : D) (p : PyData), xs[i]? = some x → ps[i]? = some p → Rp n x p L) : Rp (n + 1) (.lst xs) (.list ps) (xs.length * (L + 2) + 3) := by
  have q := Rp.items hl h
  refine ⟨.lst hl fun i x p e1 e2 => (h i x p e1 e2).pl, ?_, ?_, ?_, ?_⟩
  · simp only [PyData.showable]; exact all_show fun p hp => (q p hp).1
  · simp only [PyData.hasDict]; exact all_nodict fun p hp => (q p hp).2.1
  · simp only [PyData.shown, shownAll_map]
    have h1 := PySem.listText_len_le (ps.map PyData.shown)
    have h2 := sum_lens (ts := ps.map PyData.shown) (L := L) fun t ht => by obtain ⟨p, hp, rfl⟩ := List.mem_map.mp ht; exact (q p hp).2.2.1
    rw [List.length_map] at h1 h2
    rw [hl, Nat.mul_add]; omega
  · simp only [PyData.shown, shownAll_map]
    exact Ps.list fun t ht => by obtain ⟨p, hp, rfl⟩ := List.mem_map.mp ht; exact (q p hp).2.2.2
theorem Rp.new (hl : xs.length = ps.length) (h : ∀ (i : Nat) (x : D) (p : PyData), xs[i]? = some x → ps[i]? = some p → Rp n x p L) : Rp (n + 1) (.new xs) (.list ps) (xs.length * (L + 2) + 3) := by
  have q := Rp.lst hl h
  exact ⟨.new hl fun i x p e1 e2 => (h i x p e1 e2).pl, q.sh, q.nd, q.le, q.ok⟩
theorem Rp.tup (hl : xs.length = ps.length) (h : ∀ (i : Nat) (x : D) (p : PyData), xs[i]? = some x → ps[i]? = some p → Rp n x p L) : Rp (n + 1) (.tup xs) (.tuple ps) (xs.length * (L + 2) + 3) := by
  have q := Rp.items hl h
  refine ⟨.tup hl fun i x p e1 e2 => (h i x p e1 e2).pl, ?_, ?_, ?_, ?_⟩
  · simp only [PyData.showable]; exact all_show fun p hp => (q p hp).1
  · simp only [PyData.hasDict]; exact all_nodict fun p hp => (q p hp).2.1
  · simp only [PyData.shown, shownAll_map]
    have h1 := PySem.tupleText_len_le (ps.map PyData.shown)
    have h2 := sum_lens (ts := ps.map PyData.shown) (L := L) fun t ht => by obtain ⟨p, hp, rfl⟩ := List.mem_map.mp ht; exact (q p hp).2.2.1
    rw [List.length_map] at h1 h2
    rw [hl, Nat.mul_add]; omega
  · simp only [PyData.shown, shownAll_map]
    exact Ps.tuple fun t ht => by obtain ⟨p, hp, rfl⟩ := List.mem_map.mp ht; exact (q p hp).2.2.2
end
theorem map_items {α : Type} {R : D → PyData → Prop} (f : α → D) (g : α → PyData) (as : List α) (h : ∀ a ∈ as, R (f a) (g a)) : ∀ (i : Nat) (x : D) (p : PyData), (as.map f)[i]? = some x → (as.map g)[i]? = some p → R x p := fun i x p h1 h2 => by
  rw [List.getElem?_map, Option.map_eq_some_iff] at h1 h2
  obtain ⟨a, e1, rfl⟩ := h1
  obtain ⟨b, e2, rfl⟩ := h2
  rw [e1] at e2; cases e2
  exact h a (List.mem_of_getElem? e1)
theorem Rp.lstM {α : Type} {n L : Nat} (f : α → D) (g : α → PyData) (as : List α) (h : ∀ a ∈ as, Rp n (f a) (g a) L) : Rp (n + 1) (.lst (as.map f)) (.list (as.map g)) (as.length * (L + 2) + 3) := by
  have := Rp.lst (n := n) (L := L) (xs := as.map f) (ps := as.map g) (by simp) (map_items (R := fun d p => Rp n d p L) f g as h)
  simpa using this
theorem Rp.newM {α : Type} {n L : Nat} (f : α → D) (g : α → PyData) (as : List α) (h : ∀ a ∈ as, Rp n (f a) (g a) L) : Rp (n + 1) (.new (as.map f)) (.list (as.map g)) (as.length * (L + 2) + 3) := by
  have := Rp.new (n := n) (L := L) (xs := as.map f) (ps := as.map g) (by simp) (map_items (R := fun d p => Rp n d p L) f g as h)
  simpa using this
theorem Rp.dP {p : Int × Int} {k : Nat} (h1 : p.1.natAbs.log2 < k) (h2 : p.2.natAbs.log2 < k) (hk : k ≤ 1920) : Rp 1 (dP p) (.tuple [.int p.1, .int p.2]) (2 * (k + 3) + 3) :=
  Rp.tup (n := 0) (L := k + 1) rfl fun i x q e1 e2 => by
    match i, e1, e2 with
    | 0, e1, e2 => cases e1; cases e2; exact Rp.int 0 h1 hk
    | 1, e1, e2 => cases e1; cases e2; exact Rp.int 0 h2 hk
    | i + 2, e1, e2 => simp at e1
theorem repr_of {μ : Store} {n L : Nat} {d : D} {p : PyData} (h : Rp n d p L) (hn : n ≤ 30) (hL : L ≤ 16777216) : reprD d μ = .ok (.str p.shown) μ := by
  obtain ⟨h1, h2, h3⟩ := h.pl.ok (μ := μ) 40 (by omega)
  have e1 := h.sh
  have e2 := h.nd
  have e3 : decide (p.shown.length ≤ sizeLine) = true := decide_eq_true (by have := h.le; rw [sizeLine_val]; omega)
  have e4 : decide (p.depth ≤ 60) = true := decide_eq_true (by omega)
  unfold reprD
  rw [h1]
  simp only [e1, e2, e3, e4, Bool.not_false, Bool.and_self, if_true]
theorem eqD_txt {μ : Store} {s : Str} (h : Ps s) : eqD μ (.str s) (.str s) = some true := by
  have e1 : PySem.SeqAt.shaped (.str s) = true := by
    have : PyData.strOk s = true := by
      unfold PyData.strOk
      rw [Array.all_eq_true_iff_forall_mem]
      intro c hc
      exact decide_eq_true (h c (by simpa using hc))
    unfold PySem.SeqAt.shaped
    simp only [PyData.canLay0, this, PyData.depth]
    rfl
  unfold eqD
  have e2 : toP μ 40 (.str s) = some (.str s) := rfl
  rw [e2]
  simp only [e1, Bool.and_self, if_true, PyData.eqv]
  simp
theorem toP_ptr {μ : Store} {k n : Nat} {xs : List D} (h : μ[k]? = some (.lst xs)) : toP μ (n + 1) (.ptr k) = toP μ (n + 1) (.lst xs) := by
  simp only [toP, h]
theorem repr_ptr {μ : Store} {k : Nat} {xs : List D} (h : μ[k]? = some (.lst xs)) : reprD (.ptr k) μ = reprD (.lst xs) μ := by
  unfold reprD; rw [toP_ptr h]
theorem eqD_ptrL {μ : Store} {k : Nat} {xs : List D} {e : D} (h : μ[k]? = some (.lst xs)) : eqD μ (.ptr k) e = eqD μ (.lst xs) e := by
  unfold eqD; rw [toP_ptr h]
theorem eqD_ptrR {μ : Store} {k : Nat} {xs : List D} {e : D} (h : μ[k]? = some (.lst xs)) : eqD μ e (.ptr k) = eqD μ e (.lst xs) := by
  unfold eqD; rw [toP_ptr h]
theorem plain_args : ∀ ys : List D, noPtrL 0 ys = true → ptrs ys = [] ∧ (∀ n, renum n ys = ys) ∧ ys.all okA = true
  | [], _ => ⟨rfl, fun _ => rfl, rfl⟩
  | y :: ys, hy => by
    rw [noPtrL, Bool.and_eq_true] at hy
    obtain ⟨i1, i2, i3⟩ := plain_args ys hy.2
    cases y with
    | ptr k => simp at hy
    | _ => exact ⟨i1, fun n => by simp only [renum, i2], by rw [List.all_cons, i3, Bool.and_true]; exact hy.1⟩
/-- a call with no cell handed on -/
theorem call0 {f : Fn} {ds es : List D} {d : D} {μ : Store} (h : runF f es [] = .ok d []) (hf : frzL ds = es) (hn : noPtrL 0 es = true) (hl : ds.length = f.ps.length) (hd : noPtr 0 d = true) : callD (denF f) ds μ = .ok d μ := by
  obtain ⟨p1, p2, p3⟩ := plain_args es hn
  unfold callD
  rw [hf, p1, if_pos ⟨hl, p3, by simp⟩]
  simp only [p2, getCs, denF_run, h]
  rw [if_pos ⟨hd, rfl, rfl⟩]
  rfl
mutual
theorem frz_idem : ∀ d : D, frz (frz d) = frz d
  | .tup xs => by simp only [frz, frzL_idem xs]
  | .new xs => by simp only [frz]
  | .non => rfl
  | .bl _ => rfl
  | .int _ => rfl
  | .str _ => rfl
  | .lst _ => rfl
  | .ptr _ => rfl
  | .scr _ => rfl
theorem frzL_idem : ∀ xs : List D, frzL (frzL xs) = frzL xs
  | [] => rfl
  | x :: xs => by simp only [frzL, frz_idem x, frzL_idem xs]
end
@[simp] theorem ofString_inj {a b : String} : (Str.ofString a = Str.ofString b) = (a = b) := by
  apply propext
  constructor
  · intro h
    rw [PySem.Str.ofString_eq_toList, PySem.Str.ofString_eq_toList] at h
    injection h with h
    have h2 : a.toList.map Char.toNat = b.toList.map Char.toNat := by simpa using congrArg Array.toList h
    have inj : ∀ (x y : List Char), x.map Char.toNat = y.map Char.toNat → x = y := fun x => by
      induction x with
      | nil => intro y h; cases y with
        | nil => rfl
        | cons c y => simp at h
      | cons c x ih => intro y h; cases y with
        | nil => simp at h
        | cons d y =>
          simp only [List.map_cons, List.cons.injEq] at h
          have : c = d := Char.ext (UInt32.toNat_inj.mp h.1)
          rw [this, ih y h.2]
    exact String.toList_inj.mp (inj _ _ h2)
  · intro h; rw [h]
theorem exm_of {K : PySem.W.Frag} {S C : PySem.Addr} {b : Bool} (h1 : PySem.W.subIn K (PySem.Value.ref S) (PySem.Value.type "BaseException") = some true) (h2 : PySem.W.isClsIn K S = true) (h3 : PySem.W.typeIn K (PySem.Value.ref S) = some (PySem.Value.type "type")) (h4 : PySem.W.subIn K (PySem.Value.ref C) (PySem.Value.ref S) = some b) :
    PySem.W.exmOne K (PySem.Value.ref C) (PySem.Value.ref S) = some b := by
  have e1 : (PySem.W.subIn K (PySem.Value.ref S) (PySem.Value.type "BaseException") == some true) = true := by rw [h1] <;> rfl
  have e2 : ((PySem.W.clsIn K S).isSome && PySem.W.typeIn K (PySem.Value.ref S) == some (PySem.Value.type "type")) = true := by
    have h2' : (PySem.W.clsIn K S).isSome = true := h2
    rw [h2', h3] <;> rfl
  show (if (PySem.W.subIn K (PySem.Value.ref S) (PySem.Value.type "BaseException") == some true) = true then (if ((PySem.W.clsIn K S).isSome && PySem.W.typeIn K (PySem.Value.ref S) == some (PySem.Value.type "type")) = true then PySem.W.subIn K (PySem.Value.ref C) (PySem.Value.ref S) else none) else none) = some b
  rw [if_pos e1, if_pos e2]
  exact h4
end Pyf

/-! the trees of the defs (printed by gen.py) -/
namespace Law
open Pyf
open PySem (Str)
def f__law_bag_b0 : Ss := (.cons (.asg (.nm 1) .frz (.bin .mod (.bi .int (.cons (.bin .add (.bin .add (.bin .mul (.v 1) (.k (.int 48271))) (.bin .mod (.bi .int (.cons (.v 2) .nil)) (.k (.int 2147483629)))) (.k (.int 1))) .nil)) (.k (.int 2147483647)))) .nil)
def f__law_bag_l0 : S := .frs (.nm 2) (.seq (.sl (.v 0) (.k .non) (.k (.int 63)) false true)) f__law_bag_b0
def f__law_bag_c0 : E := .lc (.bin .mod (.bi .int (.cons (.bi .abs (.cons (.v 2) .nil)) .nil)) (.bin .pow (.bin .pow (.k (.int 10)) (.k (.int 60))) (.k (.int 10)))) (.nm 2) (.seq (.sl (.v 0) (.k .non) (.k (.int 63)) false true)) .nil
def f__law_bag : Fn := ⟨["script"], ["script", "stir", "cell"], (.cons (.asg (.nm 1) .frz (.k (.int 151))) (.cons f__law_bag_l0 (.cons (.ret (.lst (.cons f__law_bag_c0 (.cons (.k (.int 0)) (.cons (.k (.int 0)) (.cons (.v 1) (.cons (.k (.int 0)) .nil))))))) .nil)))⟩
def f__law_stirred_b0 : Ss := (.cons (.set (.v 0) (.k (.int 4)) (.bin .add (.ix (.v 0) (.k (.int 4))) (.k (.int 1)))) (.cons (.asg (.nm 4) .frz (.bin .add (.bin .add (.bin .add (.bin .pow (.ix (.v 0) (.k (.int 3))) (.k (.int 3))) (.bin .mul (.k (.int 69621)) (.ix (.v 0) (.k (.int 3))))) (.bin .mul (.k (.int 1031)) (.ix (.v 0) (.k (.int 4))))) (.k (.int 1)))) (.cons (.set (.v 0) (.k (.int 3)) (.bin .mod (.bi .int (.cons (.v 4) .nil)) (.k (.int 2147483647)))) (.cons (.asg (.nm 2) .frz (.bin .add (.bin .mul (.v 2) (.k (.int 134217728))) (.bin .fdiv (.ix (.v 0) (.k (.int 3))) (.k (.int 16))))) .nil))))
def f__law_stirred_l0 : S := .frs (.nm 3) (.rng (.cons (.bin .add (.k (.int 1)) (.bin .fdiv (.bits (.v 1)) (.k (.int 27)))) .nil)) f__law_stirred_b0
def f__law_stirred : Fn := ⟨["bag", "wide"], ["bag", "wide", "found", "k", "mixed"], (.cons (.asg (.nm 2) .frz (.k (.int 0))) (.cons f__law_stirred_l0 (.cons (.ret (.bin .mod (.bi .int (.cons (.v 2) .nil)) (.v 1))) .nil)))⟩
noncomputable def f__law_draw : Fn := ⟨["bag", "wide"], ["bag", "wide", "found"], (.cons (.ifs (.bop true (.cons (.cmp (.ix (.v 0) (.k (.int 2))) (.cons .eq (.k (.int 0)) .nil)) (.cons (.cmp (.ix (.v 0) (.k (.int 1))) (.cons .lt (.bi .len (.cons (.ix (.v 0) (.k (.int 0))) .nil)) .nil)) .nil))) (.cons (.set (.v 0) (.k (.int 2)) (.ix (.ix (.v 0) (.k (.int 0))) (.ix (.v 0) (.k (.int 1))))) (.cons (.set (.v 0) (.k (.int 1)) (.bin .add (.ix (.v 0) (.k (.int 1))) (.k (.int 1)))) .nil)) (.cons (.ifs (.cmp (.ix (.v 0) (.k (.int 2))) (.cons .eq (.k (.int 0)) .nil)) (.cons (.ret (.call "_law_stirred" (denF f__law_stirred) (.cons (.v 0) (.cons (.v 1) .nil)) .nil [])) .nil) .nil) .nil)) (.cons (.asg (.nm 2) .frz (.bin .mod (.bi .int (.cons (.ix (.v 0) (.k (.int 2))) .nil)) (.v 1))) (.cons (.set (.v 0) (.k (.int 2)) (.bin .fdiv (.ix (.v 0) (.k (.int 2))) (.v 1))) (.cons (.ret (.v 2)) .nil))))⟩
def f__law_common_b0 : Ss := (.cons (.par [(0, .frz), (1, .frz)] (.cons (.v 1) (.cons (.bin .mod (.bi .int (.cons (.v 0) .nil)) (.v 1)) .nil))) .nil)
def f__law_common_w0 : S := .whl (.cmp (.v 1) (.cons .gt (.k (.int 0)) .nil)) f__law_common_b0
def f__law_common : Fn := ⟨["one", "two"], ["one", "two"], (.cons f__law_common_w0 (.cons (.ret (.v 0)) .nil))⟩
noncomputable def f__law_reduced_b0 : Ss := (.cons (.asg (.nm 1) .frz (.call "_law_common" (denF f__law_common) (.cons (.v 2) (.cons (.v 1) .nil)) .nil [])) .nil)
noncomputable def f__law_reduced_l0 : S := .frs (.nm 2) (.seq (.v 0)) f__law_reduced_b0
noncomputable def f__law_reduced_c0 : E := .lc (.bin .fdiv (.v 2) (.v 1)) (.nm 2) (.seq (.v 0)) .nil
noncomputable def f__law_reduced : Fn := ⟨["some"], ["some", "found", "one"], (.cons (.asg (.nm 1) .frz (.k (.int 0))) (.cons f__law_reduced_l0 (.cons (.ret f__law_reduced_c0) .nil)))⟩
noncomputable def f__law_drawn_c0 : E := .lc (.call "_law_draw" (denF f__law_draw) (.cons (.v 0) (.cons (.ix (.lst (.cons (.k (.int 2)) (.cons (.k (.int 9)) (.cons (.v 2) .nil)))) (.call "_law_draw" (denF f__law_draw) (.cons (.v 0) (.cons (.k (.int 3)) .nil)) .nil [])) .nil)) .nil []) (.nm 4) (.rng (.cons (.v 1) .nil)) .nil
noncomputable def f__law_drawn : Fn := ⟨["bag", "many", "far"], ["bag", "many", "far", "some", "k"], (.cons (.asg (.nm 3) .own f__law_drawn_c0) (.cons (.ifs (.cmp (.bi .sum (.cons (.v 3) .nil)) (.cons .eq (.k (.int 0)) .nil)) (.cons (.set (.v 3) (.call "_law_draw" (denF f__law_draw) (.cons (.v 0) (.cons (.v 1) .nil)) .nil []) (.k (.int 1))) .nil) .nil) (.cons (.fz 3) (.cons (.ret (.call "_law_reduced" (denF f__law_reduced) (.cons (.v 3) .nil) .nil [])) .nil))))⟩
noncomputable def f__law_simple : Fn := ⟨["top", "bottom"], ["top", "bottom", "found"], (.cons (.asg (.nm 2) .frz (.call "_law_common" (denF f__law_common) (.cons (.bi .abs (.cons (.v 0) .nil)) (.cons (.v 1) .nil)) .nil [])) (.cons (.ret (.tup (.cons (.bin .fdiv (.v 0) (.v 2)) (.cons (.bin .fdiv (.v 1) (.v 2)) .nil)))) .nil))⟩
noncomputable def f__law_cup : Fn := ⟨["bag", "most"], ["bag", "most", "q"], (.cons (.asg (.nm 2) .frz (.bin .add (.k (.int 1)) (.call "_law_draw" (denF f__law_draw) (.cons (.v 0) (.cons (.v 1) .nil)) .nil []))) (.cons (.ret (.call "_law_simple" (denF f__law_simple) (.cons (.ix (.lst (.cons (.bin .add (.k (.int 1)) (.call "_law_draw" (denF f__law_draw) (.cons (.v 0) (.cons (.v 2) .nil)) .nil [])) (.cons (.k (.int 1)) (.cons (.v 2) .nil)))) (.call "_law_draw" (denF f__law_draw) (.cons (.v 0) (.cons (.k (.int 3)) .nil)) .nil [])) (.cons (.v 2) .nil)) .nil [])) .nil))⟩
noncomputable def f__law_poured_c0 : E := .lc (.bin .mul (.bin .mul (.v 8) (.v 11)) (.v 10)) (.nm 11) (.seq (.v 0)) .nil
noncomputable def f__law_poured_c1 : E := .lc (.bin .mul (.bin .mul (.v 8) (.v 11)) (.v 9)) (.nm 11) (.seq (.v 1)) .nil
noncomputable def f__law_poured_c2 : E := .lc (.bin .mul (.bin .mul (.v 7) (.v 11)) (.v 10)) (.nm 11) (.seq (.v 0)) .nil
noncomputable def f__law_poured_c3 : E := .lc (.bin .sub (.v 11) (.v 12)) (.tp [11, 12]) (.zip (.v 3) (.v 5)) .nil
noncomputable def f__law_poured_c4 : E := .lc (.bin .add (.v 11) (.v 12)) (.tp [11, 12]) (.zip (.v 4) (.v 5)) .nil
noncomputable def f__law_poured_c5 : E := .lc (.bin .mul (.v 7) (.v 11)) (.nm 11) (.seq (.v 4)) .nil
noncomputable def f__law_poured_c6 : E := .lc (.bin .add (.bin .mul (.bin .add (.v 7) (.v 8)) (.v 11)) (.v 12)) (.tp [11, 12]) (.zip (.v 3) (.v 6)) .nil
noncomputable def f__law_poured_c7 : E := .lc (.bin .sub (.bin .mul (.bin .add (.v 7) (.v 8)) (.v 11)) (.v 12)) (.tp [11, 12]) (.zip (.v 4) (.v 6)) .nil
noncomputable def f__law_poured : Fn := ⟨["one", "two", "part"], ["one", "two", "part", "near", "there_in", "cupful", "back", "p", "q", "a", "b", "here", "there"], (.cons (.asg (.tp [7, 8]) .frz (.v 2)) (.cons (.par [(9, .frz), (10, .frz)] (.cons (.bi .sum (.cons (.v 0) .nil)) (.cons (.bi .sum (.cons (.v 1) .nil)) .nil))) (.cons (.asg (.nm 3) .frz f__law_poured_c0) (.cons (.asg (.nm 4) .frz f__law_poured_c1) (.cons (.asg (.nm 5) .frz f__law_poured_c2) (.cons (.asg (.nm 3) .frz f__law_poured_c3) (.cons (.asg (.nm 4) .frz f__law_poured_c4) (.cons (.asg (.nm 6) .frz f__law_poured_c5) (.cons (.asg (.nm 3) .frz f__law_poured_c6) (.cons (.asg (.nm 4) .frz f__law_poured_c7) (.cons (.ret (.tup (.cons (.call "_law_reduced" (denF f__law_reduced) (.cons (.v 3) .nil) .nil []) (.cons (.call "_law_reduced" (denF f__law_reduced) (.cons (.v 4) .nil) .nil []) .nil)))) .nil)))))))))))⟩
def f_is_integer : Fn := ⟨["thing"], ["thing"], (.cons (.ret (.bop true (.cons (.isi (.v 0) [.int] true) (.cons (.nt (.isi (.v 0) [.bool] true)) .nil)))) .nil)⟩
noncomputable def f_are_parts_c0 : E := .lc (.bop true (.cons (.call "is_integer" (denF f_is_integer) (.cons (.v 1) .nil) .nil []) (.cons (.cmp (.v 1) (.cons .ge (.k (.int 0)) .nil)) .nil))) (.nm 1) (.seq (.v 0)) .nil
noncomputable def f_are_parts : Fn := ⟨["thing"], ["thing", "number"], (.cons (.ifs (.bop false (.cons (.nt (.isi (.v 0) [.list] true)) (.cons (.nt (.cmp (.k (.int 1)) (.cons .le (.bi .len (.cons (.v 0) .nil)) (.cons .le (.g "MOST_LIQUIDS" (.int 8)) .nil)))) .nil))) (.cons (.ret (.k (.bl false))) .nil) .nil) (.cons (.ret (.bop true (.cons (.bi .all (.cons f_are_parts_c0 .nil)) (.cons (.cmp (.bi .sum (.cons (.v 0) .nil)) (.cons .gt (.k (.int 0)) .nil)) .nil)))) .nil))⟩
def f_common_divisor_b0 : Ss := (.cons (.par [(0, .frz), (1, .frz)] (.cons (.v 1) (.cons (.bin .mod (.v 0) (.v 1)) .nil))) .nil)
def f_common_divisor_w0 : S := .whl (.cmp (.v 1) (.cons .gt (.k (.int 0)) .nil)) f_common_divisor_b0
def f_common_divisor : Fn := ⟨["one", "other"], ["one", "other"], (.cons (.par [(0, .frz), (1, .frz)] (.cons (.bi .abs (.cons (.v 0) .nil)) (.cons (.bi .abs (.cons (.v 1) .nil)) .nil))) (.cons f_common_divisor_w0 (.cons (.ret (.v 0)) .nil)))⟩
noncomputable def f_divisor_of_b0 : Ss := (.cons (.asg (.nm 1) .frz (.ite (.bop false (.cons (.cmp (.v 1) (.cons .ne (.k (.int 0)) .nil)) (.cons (.cmp (.v 2) (.cons .ne (.k (.int 0)) .nil)) .nil))) (.call "common_divisor" (denF f_common_divisor) (.cons (.v 1) (.cons (.v 2) .nil)) .nil []) (.k (.int 0)))) .nil)
noncomputable def f_divisor_of_l0 : S := .frs (.nm 2) (.seq (.v 0)) f_divisor_of_b0
noncomputable def f_divisor_of : Fn := ⟨["numbers"], ["numbers", "found", "number"], (.cons (.asg (.nm 1) .frz (.k (.int 0))) (.cons f_divisor_of_l0 (.cons (.ret (.v 1)) .nil)))⟩
noncomputable def f_is_content : Fn := ⟨["thing"], ["thing"], (.cons (.ret (.bop true (.cons (.call "are_parts" (denF f_are_parts) (.cons (.v 0) .nil) .nil []) (.cons (.cmp (.call "divisor_of" (denF f_divisor_of) (.cons (.v 0) .nil) .nil []) (.cons .eq (.k (.int 1)) .nil)) .nil)))) .nil)⟩
noncomputable def f_need_content : Fn := ⟨["thing"], ["thing"], (.cons (.ifs (.nt (.call "is_content" (denF f_is_content) (.cons (.v 0) .nil) .nil [])) (.cons .never .nil) .nil) .nil)⟩
noncomputable def f_need_two_pots : Fn := ⟨["first", "second"], ["first", "second"], (.cons (.ex (.call "need_content" (denF f_need_content) (.cons (.v 0) .nil) .nil [])) (.cons (.ex (.call "need_content" (denF f_need_content) (.cons (.v 1) .nil) .nil [])) (.cons (.ifs (.cmp (.bi .len (.cons (.v 0) .nil)) (.cons .ne (.bi .len (.cons (.v 1) .nil)) .nil)) (.cons .never .nil) .nil) .nil)))⟩
noncomputable def f_is_cup_c0 : E := .lc (.call "is_integer" (denF f_is_integer) (.cons (.v 1) .nil) .nil []) (.nm 1) (.seq (.v 0)) .nil
noncomputable def f_is_cup : Fn := ⟨["thing"], ["thing", "number"], (.cons (.ifs (.bop false (.cons (.nt (.isi (.v 0) [.tuple] true)) (.cons (.cmp (.bi .len (.cons (.v 0) .nil)) (.cons .ne (.k (.int 2)) .nil)) (.cons (.nt (.bi .all (.cons f_is_cup_c0 .nil))) .nil)))) (.cons (.ret (.k (.bl false))) .nil) .nil) (.cons (.ret (.bop true (.cons (.cmp (.k (.int 1)) (.cons .le (.ix (.v 0) (.k (.int 0))) (.cons .le (.ix (.v 0) (.k (.int 1))) (.cons .le (.g "MOST_CUP" (.int 100)) .nil)))) (.cons (.cmp (.call "common_divisor" (denF f_common_divisor) (.cons (.ix (.v 0) (.k (.int 0))) (.cons (.ix (.v 0) (.k (.int 1))) .nil)) .nil []) (.cons .eq (.k (.int 1)) .nil)) .nil)))) .nil))⟩
noncomputable def f_need_cup : Fn := ⟨["thing"], ["thing"], (.cons (.ifs (.nt (.call "is_cup" (denF f_is_cup) (.cons (.v 0) .nil) .nil [])) (.cons .never .nil) .nil) .nil)⟩
noncomputable def f_without_divisor_c0 : E := .lc (.bin .fdiv (.v 2) (.v 1)) (.nm 2) (.seq (.v 0)) .nil
noncomputable def f_without_divisor : Fn := ⟨["numbers"], ["numbers", "divisor", "number"], (.cons (.asg (.nm 1) .frz (.call "divisor_of" (denF f_divisor_of) (.cons (.v 0) .nil) .nil [])) (.cons (.ret f_without_divisor_c0) .nil))⟩
noncomputable def f_pot_behind_c0 : E := .lc (.bin .add (.bin .mul (.bin .mul (.v 4) (.v 7)) (.v 6)) (.bin .mul (.bin .mul (.v 3) (.v 8)) (.v 5))) (.tp [7, 8]) (.zip (.v 0) (.v 1)) .nil
noncomputable def f_pot_behind : Fn := ⟨["first", "second", "cup"], ["first", "second", "cup", "p", "q", "one", "other", "here", "there"], (.cons (.asg (.tp [3, 4]) .frz (.v 2)) (.cons (.par [(5, .frz), (6, .frz)] (.cons (.bi .sum (.cons (.v 0) .nil)) (.cons (.bi .sum (.cons (.v 1) .nil)) .nil))) (.cons (.ret (.call "without_divisor" (denF f_without_divisor) (.cons f_pot_behind_c0 .nil) .nil [])) .nil)))⟩
noncomputable def f_to_and_fro : Fn := ⟨["first", "second", "cup"], ["first", "second", "cup"], (.cons (.ex (.call "need_two_pots" (denF f_need_two_pots) (.cons (.v 0) (.cons (.v 1) .nil)) .nil [])) (.cons (.ex (.call "need_cup" (denF f_need_cup) (.cons (.v 2) .nil) .nil [])) (.cons (.ret (.tup (.cons (.call "pot_behind" (denF f_pot_behind) (.cons (.v 0) (.cons (.v 1) (.cons (.v 2) .nil))) .nil []) (.cons (.call "pot_behind" (denF f_pot_behind) (.cons (.v 1) (.cons (.v 0) (.cons (.v 2) .nil))) .nil []) .nil)))) .nil)))⟩
noncomputable def f__law_aliker0_c0 : E := .lc (.call "_law_alike" (denBad ["found", "due"]) (.cons (.ix (.v 0) (.v 2)) (.cons (.ix (.v 1) (.v 2)) .nil)) .nil []) (.nm 2) (.rng (.cons (.bi .len (.cons (.v 1) .nil)) .nil)) .nil
noncomputable def f__law_aliker0 : Fn := ⟨["found", "due"], ["found", "due", "k"], (.cons (.ifs (.isi (.v 1) [.list, .tuple] true) (.cons (.ifs (.bop false (.cons (.nt (.isi (.v 0) [.list, .tuple] true)) (.cons (.cmp (.isi (.v 0) [.list] true) (.cons .ne (.isi (.v 1) [.list] true) .nil)) .nil))) (.cons (.ret (.k (.bl false))) .nil) .nil) (.cons (.ifs (.cmp (.bi .len (.cons (.v 0) .nil)) (.cons .ne (.bi .len (.cons (.v 1) .nil)) .nil)) (.cons (.ret (.k (.bl false))) .nil) .nil) (.cons (.ret (.bi .all (.cons f__law_aliker0_c0 .nil))) .nil))) .nil) (.cons (.ifs (.bop false (.cons (.cmp (.isi (.v 0) [.bool] true) (.cons .ne (.isi (.v 1) [.bool] true) .nil)) (.cons (.cmp (.isi (.v 0) [.int] true) (.cons .ne (.isi (.v 1) [.int] true) .nil)) .nil))) (.cons (.ret (.k (.bl false))) .nil) .nil) (.cons (.ret (.bop true (.cons (.cmp (.isi (.v 0) [.str] true) (.cons .eq (.isi (.v 1) [.str] true) .nil)) (.cons (.cmp (.v 0) (.cons .eq (.v 1) .nil)) .nil)))) .nil)))⟩
noncomputable def f__law_aliker1_c0 : E := .lc (.call "_law_alike" (denF f__law_aliker0) (.cons (.ix (.v 0) (.v 2)) (.cons (.ix (.v 1) (.v 2)) .nil)) .nil []) (.nm 2) (.rng (.cons (.bi .len (.cons (.v 1) .nil)) .nil)) .nil
noncomputable def f__law_aliker1 : Fn := ⟨["found", "due"], ["found", "due", "k"], (.cons (.ifs (.isi (.v 1) [.list, .tuple] true) (.cons (.ifs (.bop false (.cons (.nt (.isi (.v 0) [.list, .tuple] true)) (.cons (.cmp (.isi (.v 0) [.list] true) (.cons .ne (.isi (.v 1) [.list] true) .nil)) .nil))) (.cons (.ret (.k (.bl false))) .nil) .nil) (.cons (.ifs (.cmp (.bi .len (.cons (.v 0) .nil)) (.cons .ne (.bi .len (.cons (.v 1) .nil)) .nil)) (.cons (.ret (.k (.bl false))) .nil) .nil) (.cons (.ret (.bi .all (.cons f__law_aliker1_c0 .nil))) .nil))) .nil) (.cons (.ifs (.bop false (.cons (.cmp (.isi (.v 0) [.bool] true) (.cons .ne (.isi (.v 1) [.bool] true) .nil)) (.cons (.cmp (.isi (.v 0) [.int] true) (.cons .ne (.isi (.v 1) [.int] true) .nil)) .nil))) (.cons (.ret (.k (.bl false))) .nil) .nil) (.cons (.ret (.bop true (.cons (.cmp (.isi (.v 0) [.str] true) (.cons .eq (.isi (.v 1) [.str] true) .nil)) (.cons (.cmp (.v 0) (.cons .eq (.v 1) .nil)) .nil)))) .nil)))⟩
noncomputable def f__law_aliker2_c0 : E := .lc (.call "_law_alike" (denF f__law_aliker1) (.cons (.ix (.v 0) (.v 2)) (.cons (.ix (.v 1) (.v 2)) .nil)) .nil []) (.nm 2) (.rng (.cons (.bi .len (.cons (.v 1) .nil)) .nil)) .nil
noncomputable def f__law_aliker2 : Fn := ⟨["found", "due"], ["found", "due", "k"], (.cons (.ifs (.isi (.v 1) [.list, .tuple] true) (.cons (.ifs (.bop false (.cons (.nt (.isi (.v 0) [.list, .tuple] true)) (.cons (.cmp (.isi (.v 0) [.list] true) (.cons .ne (.isi (.v 1) [.list] true) .nil)) .nil))) (.cons (.ret (.k (.bl false))) .nil) .nil) (.cons (.ifs (.cmp (.bi .len (.cons (.v 0) .nil)) (.cons .ne (.bi .len (.cons (.v 1) .nil)) .nil)) (.cons (.ret (.k (.bl false))) .nil) .nil) (.cons (.ret (.bi .all (.cons f__law_aliker2_c0 .nil))) .nil))) .nil) (.cons (.ifs (.bop false (.cons (.cmp (.isi (.v 0) [.bool] true) (.cons .ne (.isi (.v 1) [.bool] true) .nil)) (.cons (.cmp (.isi (.v 0) [.int] true) (.cons .ne (.isi (.v 1) [.int] true) .nil)) .nil))) (.cons (.ret (.k (.bl false))) .nil) .nil) (.cons (.ret (.bop true (.cons (.cmp (.isi (.v 0) [.str] true) (.cons .eq (.isi (.v 1) [.str] true) .nil)) (.cons (.cmp (.v 0) (.cons .eq (.v 1) .nil)) .nil)))) .nil)))⟩
noncomputable def f__law_aliker3_c0 : E := .lc (.call "_law_alike" (denF f__law_aliker2) (.cons (.ix (.v 0) (.v 2)) (.cons (.ix (.v 1) (.v 2)) .nil)) .nil []) (.nm 2) (.rng (.cons (.bi .len (.cons (.v 1) .nil)) .nil)) .nil
noncomputable def f__law_aliker3 : Fn := ⟨["found", "due"], ["found", "due", "k"], (.cons (.ifs (.isi (.v 1) [.list, .tuple] true) (.cons (.ifs (.bop false (.cons (.nt (.isi (.v 0) [.list, .tuple] true)) (.cons (.cmp (.isi (.v 0) [.list] true) (.cons .ne (.isi (.v 1) [.list] true) .nil)) .nil))) (.cons (.ret (.k (.bl false))) .nil) .nil) (.cons (.ifs (.cmp (.bi .len (.cons (.v 0) .nil)) (.cons .ne (.bi .len (.cons (.v 1) .nil)) .nil)) (.cons (.ret (.k (.bl false))) .nil) .nil) (.cons (.ret (.bi .all (.cons f__law_aliker3_c0 .nil))) .nil))) .nil) (.cons (.ifs (.bop false (.cons (.cmp (.isi (.v 0) [.bool] true) (.cons .ne (.isi (.v 1) [.bool] true) .nil)) (.cons (.cmp (.isi (.v 0) [.int] true) (.cons .ne (.isi (.v 1) [.int] true) .nil)) .nil))) (.cons (.ret (.k (.bl false))) .nil) .nil) (.cons (.ret (.bop true (.cons (.cmp (.isi (.v 0) [.str] true) (.cons .eq (.isi (.v 1) [.str] true) .nil)) (.cons (.cmp (.v 0) (.cons .eq (.v 1) .nil)) .nil)))) .nil)))⟩
noncomputable def f__law_aliker4_c0 : E := .lc (.call "_law_alike" (denF f__law_aliker3) (.cons (.ix (.v 0) (.v 2)) (.cons (.ix (.v 1) (.v 2)) .nil)) .nil []) (.nm 2) (.rng (.cons (.bi .len (.cons (.v 1) .nil)) .nil)) .nil
noncomputable def f__law_aliker4 : Fn := ⟨["found", "due"], ["found", "due", "k"], (.cons (.ifs (.isi (.v 1) [.list, .tuple] true) (.cons (.ifs (.bop false (.cons (.nt (.isi (.v 0) [.list, .tuple] true)) (.cons (.cmp (.isi (.v 0) [.list] true) (.cons .ne (.isi (.v 1) [.list] true) .nil)) .nil))) (.cons (.ret (.k (.bl false))) .nil) .nil) (.cons (.ifs (.cmp (.bi .len (.cons (.v 0) .nil)) (.cons .ne (.bi .len (.cons (.v 1) .nil)) .nil)) (.cons (.ret (.k (.bl false))) .nil) .nil) (.cons (.ret (.bi .all (.cons f__law_aliker4_c0 .nil))) .nil))) .nil) (.cons (.ifs (.bop false (.cons (.cmp (.isi (.v 0) [.bool] true) (.cons .ne (.isi (.v 1) [.bool] true) .nil)) (.cons (.cmp (.isi (.v 0) [.int] true) (.cons .ne (.isi (.v 1) [.int] true) .nil)) .nil))) (.cons (.ret (.k (.bl false))) .nil) .nil) (.cons (.ret (.bop true (.cons (.cmp (.isi (.v 0) [.str] true) (.cons .eq (.isi (.v 1) [.str] true) .nil)) (.cons (.cmp (.v 0) (.cons .eq (.v 1) .nil)) .nil)))) .nil)))⟩
noncomputable def f__law_aliker5_c0 : E := .lc (.call "_law_alike" (denF f__law_aliker4) (.cons (.ix (.v 0) (.v 2)) (.cons (.ix (.v 1) (.v 2)) .nil)) .nil []) (.nm 2) (.rng (.cons (.bi .len (.cons (.v 1) .nil)) .nil)) .nil
noncomputable def f__law_aliker5 : Fn := ⟨["found", "due"], ["found", "due", "k"], (.cons (.ifs (.isi (.v 1) [.list, .tuple] true) (.cons (.ifs (.bop false (.cons (.nt (.isi (.v 0) [.list, .tuple] true)) (.cons (.cmp (.isi (.v 0) [.list] true) (.cons .ne (.isi (.v 1) [.list] true) .nil)) .nil))) (.cons (.ret (.k (.bl false))) .nil) .nil) (.cons (.ifs (.cmp (.bi .len (.cons (.v 0) .nil)) (.cons .ne (.bi .len (.cons (.v 1) .nil)) .nil)) (.cons (.ret (.k (.bl false))) .nil) .nil) (.cons (.ret (.bi .all (.cons f__law_aliker5_c0 .nil))) .nil))) .nil) (.cons (.ifs (.bop false (.cons (.cmp (.isi (.v 0) [.bool] true) (.cons .ne (.isi (.v 1) [.bool] true) .nil)) (.cons (.cmp (.isi (.v 0) [.int] true) (.cons .ne (.isi (.v 1) [.int] true) .nil)) .nil))) (.cons (.ret (.k (.bl false))) .nil) .nil) (.cons (.ret (.bop true (.cons (.cmp (.isi (.v 0) [.str] true) (.cons .eq (.isi (.v 1) [.str] true) .nil)) (.cons (.cmp (.v 0) (.cons .eq (.v 1) .nil)) .nil)))) .nil)))⟩
noncomputable def f__law_alike_c0 : E := .lc (.call "_law_alike" (denF f__law_aliker5) (.cons (.ix (.v 0) (.v 2)) (.cons (.ix (.v 1) (.v 2)) .nil)) .nil []) (.nm 2) (.rng (.cons (.bi .len (.cons (.v 1) .nil)) .nil)) .nil
noncomputable def f__law_alike : Fn := ⟨["found", "due"], ["found", "due", "k"], (.cons (.ifs (.isi (.v 1) [.list, .tuple] true) (.cons (.ifs (.bop false (.cons (.nt (.isi (.v 0) [.list, .tuple] true)) (.cons (.cmp (.isi (.v 0) [.list] true) (.cons .ne (.isi (.v 1) [.list] true) .nil)) .nil))) (.cons (.ret (.k (.bl false))) .nil) .nil) (.cons (.ifs (.cmp (.bi .len (.cons (.v 0) .nil)) (.cons .ne (.bi .len (.cons (.v 1) .nil)) .nil)) (.cons (.ret (.k (.bl false))) .nil) .nil) (.cons (.ret (.bi .all (.cons f__law_alike_c0 .nil))) .nil))) .nil) (.cons (.ifs (.bop false (.cons (.cmp (.isi (.v 0) [.bool] true) (.cons .ne (.isi (.v 1) [.bool] true) .nil)) (.cons (.cmp (.isi (.v 0) [.int] true) (.cons .ne (.isi (.v 1) [.int] true) .nil)) .nil))) (.cons (.ret (.k (.bl false))) .nil) .nil) (.cons (.ret (.bop true (.cons (.cmp (.isi (.v 0) [.str] true) (.cons .eq (.isi (.v 1) [.str] true) .nil)) (.cons (.cmp (.v 0) (.cons .eq (.v 1) .nil)) .nil)))) .nil)))⟩
noncomputable def f_need_pots_c0 : E := .lc (.call "is_content" (denF f_is_content) (.cons (.v 1) .nil) .nil []) (.nm 1) (.seq (.v 0)) .nil
noncomputable def f_need_pots_c1 : E := .lc (.cmp (.bi .len (.cons (.v 1) .nil)) (.cons .eq (.bi .len (.cons (.ix (.v 0) (.k (.int 0))) .nil)) .nil)) (.nm 1) (.seq (.v 0)) .nil
noncomputable def f_need_pots : Fn := ⟨["thing"], ["thing", "content"], (.cons (.ifs (.bop false (.cons (.nt (.isi (.v 0) [.list] true)) (.cons (.nt (.cmp (.k (.int 2)) (.cons .le (.bi .len (.cons (.v 0) .nil)) (.cons .le (.g "MOST_POTS" (.int 8)) .nil)))) .nil))) (.cons .never .nil) .nil) (.cons (.ifs (.nt (.bi .all (.cons f_need_pots_c0 .nil))) (.cons .never .nil) .nil) (.cons (.ifs (.nt (.bi .all (.cons f_need_pots_c1 .nil))) (.cons .never .nil) .nil) .nil)))⟩
noncomputable def f_is_deed : Fn := ⟨["thing", "count"], ["thing", "count"], (.cons (.ifs (.bop false (.cons (.nt (.isi (.v 0) [.tuple] true)) (.cons (.cmp (.bi .len (.cons (.v 0) .nil)) (.cons .ne (.k (.int 3)) .nil)) (.cons (.nt (.call "is_integer" (denF f_is_integer) (.cons (.ix (.v 0) (.k (.int 0))) .nil) .nil [])) (.cons (.nt (.call "is_integer" (denF f_is_integer) (.cons (.ix (.v 0) (.k (.int 1))) .nil) .nil [])) .nil))))) (.cons (.ret (.k (.bl false))) .nil) .nil) (.cons (.ret (.bop true (.cons (.cmp (.k (.int 0)) (.cons .le (.ix (.v 0) (.k (.int 0))) (.cons .lt (.v 1) .nil))) (.cons (.cmp (.k (.int 0)) (.cons .le (.ix (.v 0) (.k (.int 1))) (.cons .lt (.v 1) .nil))) (.cons (.cmp (.ix (.v 0) (.k (.int 0))) (.cons .ne (.ix (.v 0) (.k (.int 1))) .nil)) (.cons (.call "is_cup" (denF f_is_cup) (.cons (.ix (.v 0) (.k (.int 2))) .nil) .nil []) .nil)))))) .nil))⟩
noncomputable def f_cups_row_c0 : E := .lc (.call "is_deed" (denF f_is_deed) (.cons (.v 7) (.cons (.bi .len (.cons (.v 0) .nil)) .nil)) .nil []) (.nm 7) (.seq (.v 1)) .nil
noncomputable def f_cups_row_c1 : E := .lc (.bi .list (.cons (.v 6) .nil)) (.nm 6) (.seq (.v 0)) .nil
noncomputable def f_cups_row_b0 : Ss := (.cons (.set2 (.v 2) (.v 3) (.v 2) (.v 4) (.tup (.cons (.own (.call "pot_behind" (denF f_pot_behind) (.cons (.ix (.v 2) (.v 3)) (.cons (.ix (.v 2) (.v 4)) (.cons (.v 5) .nil))) .nil [])) (.cons (.own (.call "pot_behind" (denF f_pot_behind) (.cons (.ix (.v 2) (.v 4)) (.cons (.ix (.v 2) (.v 3)) (.cons (.v 5) .nil))) .nil [])) .nil)))) .nil)
noncomputable def f_cups_row_l0 : S := .frs (.tp [3, 4, 5]) (.seq (.v 1)) f_cups_row_b0
noncomputable def f_cups_row : Fn := ⟨["pots", "deeds"], ["pots", "deeds", "found", "one", "other", "cup", "content", "deed"], (.cons (.ex (.call "need_pots" (denF f_need_pots) (.cons (.v 0) .nil) .nil [])) (.cons (.ifs (.bop false (.cons (.nt (.isi (.v 1) [.list] true)) (.cons (.cmp (.bi .len (.cons (.v 1) .nil)) (.cons .gt (.g "MOST_DEEDS" (.int 60)) .nil)) (.cons (.nt (.bi .all (.cons f_cups_row_c0 .nil))) .nil)))) (.cons .never .nil) .nil) (.cons (.asg (.nm 2) .deep f_cups_row_c1) (.cons f_cups_row_l0 (.cons (.ret (.v 2)) .nil)))))⟩
noncomputable def f__law_row_right_c0 : E := .lc (.call "_law_drawn" (denF f__law_drawn) (.cons (.v 0) (.cons (.v 1) (.cons (.k (.int 9)) .nil))) .nil []) (.nm 4) (.rng (.cons (.bin .add (.k (.int 2)) (.call "_law_draw" (denF f__law_draw) (.cons (.v 0) (.cons (.k (.int 7)) .nil)) .nil [])) .nil)) .nil
noncomputable def f__law_row_right_c1 : E := .lc (.bi .list (.cons (.v 11) .nil)) (.nm 11) (.seq (.v 3)) .nil
noncomputable def f__law_row_right_c2 : E := .lc (.bi .list (.cons (.v 11) .nil)) (.nm 11) (.seq (.v 3)) .nil
noncomputable def f__law_row_right_b0 : Ss := (.cons (.asg (.nm 9) .frz (.call "_law_draw" (denF f__law_draw) (.cons (.v 0) (.cons (.bi .len (.cons (.v 3) .nil)) .nil)) .nil [])) (.cons (.asg (.nm 10) .frz (.bin .mod (.bi .int (.cons (.bin .add (.bin .add (.v 9) (.k (.int 1))) (.call "_law_draw" (denF f__law_draw) (.cons (.v 0) (.cons (.bin .sub (.bi .len (.cons (.v 3) .nil)) (.k (.int 1))) .nil)) .nil [])) .nil)) (.bi .len (.cons (.v 3) .nil)))) (.cons (.ex (.me .append (.v 8) (.cons (.tup (.cons (.v 9) (.cons (.v 10) (.cons (.call "_law_cup" (denF f__law_cup) (.cons (.v 0) (.cons (.k (.int 9)) .nil)) .nil []) .nil)))) .nil))) (.cons (.set2 (.v 7) (.v 9) (.v 7) (.v 10) (.call "_law_poured" (denF f__law_poured) (.cons (.ix (.v 7) (.v 9)) (.cons (.ix (.v 7) (.v 10)) (.cons (.ix (.ix (.v 8) (.neg (.k (.int 1)))) (.k (.int 2))) .nil))) .nil [])) .nil))))
noncomputable def f__law_row_right_l0 : S := .frs (.nm 4) (.rng (.cons (.v 2) .nil)) f__law_row_right_b0
noncomputable def f__law_row_right_b1 : Ss := (.cons (.ex (.me .append (.ix (.v 5) (.v 4)) (.cons (.v 4) .nil))) .nil)
noncomputable def f__law_row_right_l1 : S := .frs (.nm 4) (.rng (.cons (.bi .len (.cons (.v 5) .nil)) .nil)) f__law_row_right_b1
noncomputable def f__law_row_right_c3 : E := .lc (.sl (.v 11) (.k .non) (.neg (.k (.int 1))) false true) (.nm 11) (.seq (.v 5)) .nil
noncomputable def f__law_row_right_c4 : E := .lc (.ix (.v 11) (.neg (.k (.int 1)))) (.nm 11) (.seq (.v 5)) .nil
noncomputable def f__law_row_right : Fn := ⟨["bag", "many", "size"], ["bag", "many", "size", "some", "k", "told", "before", "rows", "acts", "i", "j", "row"], (.cons (.asg (.nm 3) .frz f__law_row_right_c0) (.cons (.par [(6, .frz), (7, .own), (8, .own)] (.cons f__law_row_right_c1 (.cons f__law_row_right_c2 (.cons (.lst .nil) .nil)))) (.cons f__law_row_right_l0 (.cons (.fz 8) (.cons (.asg (.nm 5) .deep (.call "cups_row" (denF f_cups_row) .nil (.cons (.v 8) (.cons (.v 3) .nil)) ["deeds", "pots"])) (.cons (.fz 7) (.cons (.ifs (.bop false (.cons (.nt (.call "_law_alike" (denF f__law_alike) (.cons (.v 5) (.cons (.v 7) .nil)) .nil [])) (.cons (.cmp (.v 3) (.cons .ne (.v 6) .nil)) .nil))) (.cons (.ret (.k (.bl false))) .nil) .nil) (.cons f__law_row_right_l1 (.cons (.ifs (.bop false (.cons (.cmp f__law_row_right_c3 (.cons .ne (.v 7) .nil)) (.cons (.cmp f__law_row_right_c4 (.cons .ne (.rgl (.k (.int 0)) (.bi .len (.cons (.v 7) .nil))) .nil)) .nil))) (.cons (.ret (.k (.bl false))) .nil) .nil) (.cons (.ret (.bop true (.cons (.cmp (.call "cups_row" (denF f_cups_row) (.cons (.v 3) (.cons (.v 8) .nil)) .nil []) (.cons .eq (.v 7) .nil)) (.cons (.cmp (.v 3) (.cons .eq (.v 6) .nil)) .nil)))) .nil))))))))))⟩
noncomputable def f_simplest : Fn := ⟨["top", "bottom"], ["top", "bottom", "divisor"], (.cons (.asg (.nm 2) .frz (.call "common_divisor" (denF f_common_divisor) (.cons (.v 0) (.cons (.v 1) .nil)) .nil [])) (.cons (.ret (.tup (.cons (.bin .fdiv (.v 0) (.v 2)) (.cons (.bin .fdiv (.v 1) (.v 2)) .nil)))) .nil))⟩
noncomputable def f_carried : Fn := ⟨["cup"], ["cup"], (.cons (.ex (.call "need_cup" (denF f_need_cup) (.cons (.v 0) .nil) .nil [])) (.cons (.ret (.call "simplest" (denF f_simplest) (.cons (.ix (.v 0) (.k (.int 0))) (.cons (.bin .add (.ix (.v 0) (.k (.int 0))) (.ix (.v 0) (.k (.int 1)))) .nil)) .nil [])) .nil))⟩
noncomputable def f__law_equal_right : Fn := ⟨[], ["told", "one", "two"], (.cons (.par [(1, .frz), (2, .frz)] (.cons (.lst (.cons (.k (.int 3)) (.cons (.k (.int 4)) .nil))) (.cons (.lst (.cons (.k (.int 3)) (.cons (.k (.int 4)) .nil))) .nil))) (.cons (.asg (.nm 0) .deep (.call "to_and_fro" (denF f_to_and_fro) (.cons (.v 1) (.cons (.v 2) (.cons (.tup (.cons (.k (.int 1)) (.cons (.k (.int 2)) .nil))) .nil))) .nil [])) (.cons (.ex (.me .append (.ix (.v 0) (.k (.int 0))) (.cons (.k (.int 1)) .nil))) (.cons (.ex (.me .append (.ix (.v 0) (.k (.int 1))) (.cons (.k (.int 2)) .nil))) (.cons (.ifs (.nt (.call "_law_alike" (denF f__law_alike) (.cons (.lst (.cons (.v 1) (.cons (.v 2) (.cons (.v 0) .nil)))) (.cons (.lst (.cons (.lst (.cons (.k (.int 3)) (.cons (.k (.int 4)) .nil))) (.cons (.lst (.cons (.k (.int 3)) (.cons (.k (.int 4)) .nil))) (.cons (.tup (.cons (.lst (.cons (.k (.int 3)) (.cons (.k (.int 4)) (.cons (.k (.int 1)) .nil)))) (.cons (.lst (.cons (.k (.int 3)) (.cons (.k (.int 4)) (.cons (.k (.int 2)) .nil)))) .nil))) .nil)))) .nil)) .nil [])) (.cons (.ret (.k (.bl false))) .nil) .nil) (.cons (.asg (.nm 0) .deep (.call "to_and_fro" (denF f_to_and_fro) (.cons (.lst (.cons (.k (.int 1)) (.cons (.k (.int 0)) .nil))) (.cons (.lst (.cons (.k (.int 0)) (.cons (.k (.int 1)) .nil))) (.cons (.tup (.cons (.k (.int 1)) (.cons (.k (.int 1)) .nil))) .nil))) .nil [])) (.cons (.ex (.me .append (.ix (.v 0) (.k (.int 0))) (.cons (.k (.int 1)) .nil))) (.cons (.ret (.cmp (.ix (.v 0) (.k (.int 1))) (.cons .eq (.lst (.cons (.k (.int 1)) (.cons (.k (.int 1)) .nil))) .nil))) .nil))))))))⟩
noncomputable def f_law_b0 : Ss := (.cons (.par [(6, .frz), (7, .frz)] (.cons (.bin .add (.k (.int 1)) (.call "_law_draw" (denF f__law_draw) (.cons (.v 1) (.cons (.k (.int 8)) .nil)) .nil [])) (.cons (.ix (.lst (.cons (.k (.int 9)) (.cons (.bin .pow (.k (.int 10)) (.k (.int 30))) .nil))) (.call "_law_draw" (denF f__law_draw) (.cons (.v 1) (.cons (.k (.int 2)) .nil)) .nil [])) .nil))) (.cons (.par [(8, .frz), (9, .frz)] (.cons (.call "_law_drawn" (denF f__law_drawn) (.cons (.v 1) (.cons (.v 6) (.cons (.v 7) .nil))) .nil []) (.cons (.call "_law_drawn" (denF f__law_drawn) (.cons (.v 1) (.cons (.v 6) (.cons (.v 7) .nil))) .nil []) .nil))) (.cons (.asg (.nm 5) .frz (.call "_law_cup" (denF f__law_cup) (.cons (.v 1) (.cons (.ix (.lst (.cons (.k (.int 5)) (.cons (.k (.int 100)) .nil))) (.call "_law_draw" (denF f__law_draw) (.cons (.v 1) (.cons (.k (.int 2)) .nil)) .nil [])) .nil)) .nil [])) (.cons (.par [(10, .frz), (4, .frz)] (.cons (.lst (.cons (.bi .list (.cons (.v 8) .nil)) (.cons (.bi .list (.cons (.v 9) .nil)) .nil))) (.cons (.call "_law_poured" (denF f__law_poured) (.cons (.v 8) (.cons (.v 9) (.cons (.v 5) .nil))) .nil []) .nil))) (.cons (.asg (.nm 3) .deep (.call "to_and_fro" (denF f_to_and_fro) .nil (.cons (.v 9) (.cons (.v 8) (.cons (.v 5) .nil))) ["second", "first", "cup"])) (.cons (.ifs (.bop false (.cons (.nt (.call "_law_alike" (denF f__law_alike) (.cons (.v 3) (.cons (.v 4) .nil)) .nil [])) (.cons (.cmp (.lst (.cons (.v 8) (.cons (.v 9) .nil))) (.cons .ne (.v 10) .nil)) .nil))) (.cons (.ret (.k (.bl false))) .nil) .nil) (.cons (.ex (.me .append (.ix (.v 3) (.k (.int 0))) (.cons (.k (.int 1)) .nil))) (.cons (.ifs (.nt (.call "_law_alike" (denF f__law_alike) (.cons (.ix (.v 3) (.k (.int 1))) (.cons (.ix (.v 4) (.k (.int 1))) .nil)) .nil [])) (.cons (.ret (.k (.bl false))) .nil) .nil) (.cons (.ifs (.nt (.call "_law_alike" (denF f__law_alike) (.cons (.lst (.cons (.call "to_and_fro" (denF f_to_and_fro) (.cons (.v 8) (.cons (.v 9) (.cons (.v 5) .nil))) .nil []) (.cons (.ix (.call "to_and_fro" (denF f_to_and_fro) (.cons (.v 8) (.cons (.v 8) (.cons (.v 5) .nil))) .nil []) (.k (.int 0))) .nil))) (.cons (.lst (.cons (.v 4) (.cons (.v 8) .nil))) .nil)) .nil [])) (.cons (.ret (.k (.bl false))) .nil) .nil) (.cons (.ifs (.nt (.call "_law_row_right" (denF f__law_row_right) (.cons (.v 1) (.cons (.v 6) (.cons (.ix (.lst (.cons (.call "_law_draw" (denF f__law_draw) (.cons (.v 1) (.cons (.k (.int 6)) .nil)) .nil []) (.cons (.k (.int 60)) .nil))) (.bi .int (.cons (.cmp (.v 2) (.cons .eq (.k (.int 0)) .nil)) .nil))) .nil))) .nil [])) (.cons (.ret (.k (.bl false))) .nil) .nil) (.cons (.ifs (.nt (.call "_law_alike" (denF f__law_alike) (.cons (.call "carried" (denF f_carried) .nil (.cons (.v 5) .nil) ["cup"]) (.cons (.call "_law_simple" (denF f__law_simple) (.cons (.ix (.v 5) (.k (.int 0))) (.cons (.bin .add (.ix (.v 5) (.k (.int 0))) (.ix (.v 5) (.k (.int 1)))) .nil)) .nil []) .nil)) .nil [])) (.cons (.ret (.k (.bl false))) .nil) .nil) .nil)))))))))))
noncomputable def f_law_l0 : S := .frs (.nm 2) (.rng (.cons (.k (.int 6)) .nil)) f_law_b0
noncomputable def f_law : Fn := ⟨["script"], ["script", "bag", "turn", "told", "due", "part", "many", "far", "one", "two", "before"], (.cons (.asg (.nm 1) .own (.call "_law_bag" (denF f__law_bag) (.cons (.v 0) .nil) .nil [])) (.cons f_law_l0 (.cons (.asg (.nm 3) .deep (.lst (.cons (.call "to_and_fro" (denF f_to_and_fro) (.cons (.lst (.cons (.k (.int 1)) (.cons (.k (.int 0)) .nil))) (.cons (.lst (.cons (.k (.int 0)) (.cons (.k (.int 1)) .nil))) (.cons (.tup (.cons (.k (.int 1)) (.cons (.k (.int 4)) .nil))) .nil))) .nil []) (.cons (.call "carried" (denF f_carried) (.cons (.tup (.cons (.k (.int 1)) (.cons (.k (.int 4)) .nil))) .nil) .nil []) (.cons (.call "carried" (denF f_carried) (.cons (.tup (.cons (.k (.int 1)) (.cons (.k (.int 1)) .nil))) .nil) .nil []) (.cons (.call "to_and_fro" (denF f_to_and_fro) (.cons (.lst (.cons (.k (.int 1)) (.cons (.k (.int 0)) .nil))) (.cons (.lst (.cons (.k (.int 0)) (.cons (.k (.int 1)) .nil))) (.cons (.tup (.cons (.k (.int 1)) (.cons (.k (.int 1)) .nil))) .nil))) .nil []) .nil)))))) (.cons (.ex (.me .append (.v 3) (.cons (.own (.call "cups_row" (denF f_cups_row) (.cons (.lst (.cons (.lst (.cons (.k (.int 1)) (.cons (.k (.int 0)) .nil))) (.cons (.lst (.cons (.k (.int 0)) (.cons (.k (.int 1)) .nil))) .nil))) (.cons (.lst .nil) .nil)) .nil [])) .nil))) (.cons (.asg (.nm 4) .frz (.lst (.cons (.tup (.cons (.lst (.cons (.k (.int 4)) (.cons (.k (.int 1)) .nil))) (.cons (.lst (.cons (.k (.int 1)) (.cons (.k (.int 4)) .nil))) .nil))) (.cons (.tup (.cons (.k (.int 1)) (.cons (.k (.int 5)) .nil))) (.cons (.tup (.cons (.k (.int 1)) (.cons (.k (.int 2)) .nil))) (.cons (.tup (.cons (.lst (.cons (.k (.int 1)) (.cons (.k (.int 1)) .nil))) (.cons (.lst (.cons (.k (.int 1)) (.cons (.k (.int 1)) .nil))) .nil))) (.cons (.lst (.cons (.lst (.cons (.k (.int 1)) (.cons (.k (.int 0)) .nil))) (.cons (.lst (.cons (.k (.int 0)) (.cons (.k (.int 1)) .nil))) .nil))) .nil))))))) (.cons (.ret (.bop true (.cons (.call "_law_alike" (denF f__law_alike) (.cons (.v 3) (.cons (.v 4) .nil)) .nil []) (.cons (.call "_law_equal_right" (denF f__law_equal_right) .nil .nil []) .nil)))) .nil))))))⟩
def f_cups_row_deep : Unit := ()
def f__law_cup_p2 : Unit := ()
@[simp] theorem ps__law_bag : f__law_bag.ps = (["script"] : List Str) := rfl
@[simp] theorem ps__law_stirred : f__law_stirred.ps = (["bag", "wide"] : List Str) := rfl
@[simp] theorem ps__law_draw : f__law_draw.ps = (["bag", "wide"] : List Str) := rfl
@[simp] theorem ps__law_common : f__law_common.ps = (["one", "two"] : List Str) := rfl
@[simp] theorem ps__law_reduced : f__law_reduced.ps = (["some"] : List Str) := rfl
@[simp] theorem ps__law_drawn : f__law_drawn.ps = (["bag", "many", "far"] : List Str) := rfl
@[simp] theorem ps__law_simple : f__law_simple.ps = (["top", "bottom"] : List Str) := rfl
@[simp] theorem ps__law_cup : f__law_cup.ps = (["bag", "most"] : List Str) := rfl
@[simp] theorem ps__law_poured : f__law_poured.ps = (["one", "two", "part"] : List Str) := rfl
@[simp] theorem ps_is_integer : f_is_integer.ps = (["thing"] : List Str) := rfl
@[simp] theorem ps_are_parts : f_are_parts.ps = (["thing"] : List Str) := rfl
@[simp] theorem ps_common_divisor : f_common_divisor.ps = (["one", "other"] : List Str) := rfl
@[simp] theorem ps_divisor_of : f_divisor_of.ps = (["numbers"] : List Str) := rfl
@[simp] theorem ps_is_content : f_is_content.ps = (["thing"] : List Str) := rfl
@[simp] theorem ps_need_content : f_need_content.ps = (["thing"] : List Str) := rfl
@[simp] theorem ps_need_two_pots : f_need_two_pots.ps = (["first", "second"] : List Str) := rfl
@[simp] theorem ps_is_cup : f_is_cup.ps = (["thing"] : List Str) := rfl
@[simp] theorem ps_need_cup : f_need_cup.ps = (["thing"] : List Str) := rfl
@[simp] theorem ps_without_divisor : f_without_divisor.ps = (["numbers"] : List Str) := rfl
@[simp] theorem ps_pot_behind : f_pot_behind.ps = (["first", "second", "cup"] : List Str) := rfl
@[simp] theorem ps_to_and_fro : f_to_and_fro.ps = (["first", "second", "cup"] : List Str) := rfl
@[simp] theorem ps__law_aliker0 : f__law_aliker0.ps = (["found", "due"] : List Str) := rfl
@[simp] theorem ps__law_aliker1 : f__law_aliker1.ps = (["found", "due"] : List Str) := rfl
@[simp] theorem ps__law_aliker2 : f__law_aliker2.ps = (["found", "due"] : List Str) := rfl
@[simp] theorem ps__law_aliker3 : f__law_aliker3.ps = (["found", "due"] : List Str) := rfl
@[simp] theorem ps__law_aliker4 : f__law_aliker4.ps = (["found", "due"] : List Str) := rfl
@[simp] theorem ps__law_aliker5 : f__law_aliker5.ps = (["found", "due"] : List Str) := rfl
@[simp] theorem ps__law_alike : f__law_alike.ps = (["found", "due"] : List Str) := rfl
@[simp] theorem ps_need_pots : f_need_pots.ps = (["thing"] : List Str) := rfl
@[simp] theorem ps_is_deed : f_is_deed.ps = (["thing", "count"] : List Str) := rfl
@[simp] theorem ps_cups_row : f_cups_row.ps = (["pots", "deeds"] : List Str) := rfl
@[simp] theorem ps__law_row_right : f__law_row_right.ps = (["bag", "many", "size"] : List Str) := rfl
@[simp] theorem ps_simplest : f_simplest.ps = (["top", "bottom"] : List Str) := rfl
@[simp] theorem ps_carried : f_carried.ps = (["cup"] : List Str) := rfl
@[simp] theorem ps__law_equal_right : f__law_equal_right.ps = ([] : List Str) := rfl
@[simp] theorem ps_law : f_law.ps = (["script"] : List Str) := rfl
end Law

namespace Law
open Pyf
open PySem (Str PyData sizeLine)
@[simp] theorem r_is_integer (i : Int) : runF f_is_integer [.int i] [] = .ok (.bl true) [] := by
  simp [runF, f_is_integer]
theorem log2_lt {a b n : Nat} (h : a ≤ b) (hb : b.log2 < n) (hn : 0 < n) : a.log2 < n := by
  by_cases h0 : a = 0
  · subst h0; simpa using hn
  · refine Nat.lt_of_le_of_lt ?_ hb
    rw [Nat.le_log2 (by omega)]
    exact Nat.le_trans (Nat.log2_self_le h0) h
theorem gcd_loop : ∀ (n b : Nat) (a : Nat), b ≤ n → b.log2 < 9000 → ∃ m, whileN (ev (.cmp (.v 1) (.cons .gt (.k (.int 0)) .nil))).t (exSs f_common_divisor_b0) m [some (.int a), some (.int b)] [] = some (.ok (.nx [some (.int (Nat.gcd a b)), some (.int 0)]) [])
  | n, 0, a, _, _ => ⟨1, by simp [whileN]⟩
  | 0, b + 1, a, h, _ => by omega
  | n + 1, b + 1, a, h, hl => by
    have hlt : a % (b + 1) < b + 1 := Nat.mod_lt _ (by omega)
    have ih := gcd_loop n (a % (b + 1)) (b + 1) (by omega) (log2_lt (by omega) hl (by omega))
    refine whileS_turn (μ1 := []) (ρ' := [some (.int ((b + 1 : Nat) : Int)), some (.int ((a % (b + 1) : Nat) : Int))]) (μ2 := []) ?_ ?_ ?_
    · simp
    · have hd : divOk (((b + 1 : Nat)) : Int) = true := by
        simp only [divOk, Int.natAbs_natCast]
        simp [hl]
      simp [f_common_divisor_b0, hd]
    · obtain ⟨m, hm⟩ := ih
      refine ⟨m, ?_⟩
      rw [hm, Nat.gcd_comm a (b + 1), Nat.gcd_rec (b + 1) a, Nat.gcd_comm]
@[simp] theorem r_common_divisor (a b : Int) (hb : b.natAbs.log2 < 9000) : runF f_common_divisor [.int a, .int b] [] = .ok (.int (Int.gcd a b)) [] := by
  obtain ⟨m, hm⟩ := gcd_loop b.natAbs b.natAbs a.natAbs (Nat.le_refl _) hb
  have ha : (if a < 0 then -a else a) = (a.natAbs : Int) := by split <;> omega
  have hb' : (if b < 0 then -b else b) = (b.natAbs : Int) := by split <;> omega
  have hw : exS f_common_divisor_w0 [some (.int (a.natAbs : Int)), some (.int (b.natAbs : Int))] [] = .ok (.nx [some (.int (Int.gcd a b)), some (.int 0)]) [] := whileS_of hm
  simp [runF, f_common_divisor, ha, hb', hw]
theorem small_log {b : Int} (h0 : 0 ≤ b) (h : b ≤ 100) : b.natAbs.log2 < 9000 := log2_lt (b := 100) (by omega) (by decide) (by omega)
def JB (n : Nat) (a b c : Int) : Prop := 0 ≤ a ∧ 0 ≤ b ∧ b < 10 ^ 47 ∧ 0 ≤ c ∧ c ≤ n
def mixA (b c : Int) : Int := (b + 60000049 * c) ^ 3 % (10 ^ 47 + 91)
def mixB (b c : Int) : Int := (mixA b c + 35000021 * c) ^ 3 % (10 ^ 46 + 79)
def MJ : Int := 10000000000000000000000000000000000000000057
theorem jar_bounds (c : Int) (k : Nat) (hk : k ≤ 100) (hc : 0 ≤ c) : mulOk (c % MJ) 101 = true ∧ JB 0 (if c - 1000000000000000000 > 0 then c - 1000000000000000000 else 0) (c % MJ * 101 + 70001 * (k : Int)) 0 := by
  have h1 : 0 ≤ c % MJ := Int.emod_nonneg _ (by decide)
  have h2 : c % MJ < 10000000000000000000000000000000000000000057 := Int.emod_lt_of_pos _ (by decide)
  refine ⟨mulOk_of 200 20 (by omega) (by decide) (by omega), ?_, by omega, by omega, by omega, by omega⟩
  split <;> omega
theorem jar_e1 (q0 q1 : Option D) (c : Int) : (ev (.bi .max2 (.cons (.k (.int 0)) (.cons (.bin .sub (.v 2) (.bin .pow (.k (.int 10)) (.k (.int 18)))) .nil)))).e [q0, q1, some (.int c)] [] = .ok (.int (if c - 1000000000000000000 > 0 then c - 1000000000000000000 else 0)) [] := by
  have p1 : powOk 10 18 = true := by decide +kernel
  simp [p1, max2D]
theorem jar_e2 (q0 : Option D) (k : Int) (c : Int) (h1 : mulOk (c % MJ) 101 = true) (hmk : mulOk 70001 k = true) : (ev (.bin .add (.bin .mul (.bin .mod (.bi .int (.cons (.v 2) .nil)) (.bin .add (.bin .pow (.k (.int 10)) (.k (.int 43))) (.k (.int 57)))) (.k (.int 101))) (.bin .mul (.k (.int 70001)) (.v 1)))).e [q0, some (.int k), some (.int c)] [] =
    .ok (.int (c % MJ * 101 + 70001 * k)) [] := by
  have p2 : powOk 10 43 = true := by decide +kernel
  have hd : divOk MJ = true := by decide +kernel
  unfold MJ at *
  simp [p2, hd, hmk, h1]
def J3 (n : Nat) (j : Nat) (μ : Store) : Prop := At3 (JB n) j μ
theorem J3.mono {n m j : Nat} {μ : Store} (h : J3 n j μ) (hl : n ≤ m) : J3 m j μ := by
  obtain ⟨a, b, c, h1, q1, q2, q3, q4, q5⟩ := h
  exact ⟨a, b, c, h1, q1, q2, q3, q4, by omega⟩
theorem small62_nat {i : Int} (h0 : 0 ≤ i) (h : i ≤ 1000) : small62 i = true := by
  unfold small62
  exact decide_eq_true (by omega)
theorem cut_drop (xs : List D) (i : Nat) (h : i ≤ xs.length) : cutD xs (some (i : Int)) none = xs.drop i := by
  unfold cutD
  rw [HT.sIx_none, HT.sIx_nat, Nat.min_eq_left h]
  exact List.take_of_length_le (by simp)
theorem cat_new (μ : Store) (xs ys : List D) (h : xs.length + ys.length ≤ 16777216) : catL μ (.new xs) (.new ys) = .ok (.new (xs ++ ys)) μ := if_pos h
def Kp (p : Int × Int) : Prop := 1 ≤ p.1 ∧ p.1 < p.2 ∧ p.2 ≤ 100 ∧ Int.gcd p.1 p.2 = 1
theorem kp {a b : Int} (h : 1 ≤ a ∧ a < b ∧ b ≤ 100 ∧ Int.gcd a b = 1) : Kp (a, b) := h
theorem sixes (μ : Store) (v : Int) (h0 : 0 ≤ v) (h1 : v < 6) : ∃ p, ixD μ (.new [.tup [.int 1, .int 2], .tup [.int 1, .int 3], .tup [.int 2, .int 3], .tup [.int 3, .int 4], .tup [.int 2, .int 5], .tup [.int 9, .int 10]]) (.int v) = .ok (dP p) μ ∧ Kp p := by
  have hv : v = 0 ∨ v = 1 ∨ v = 2 ∨ v = 3 ∨ v = 4 ∨ v = 5 := by omega
  rcases hv with rfl | rfl | rfl | rfl | rfl | rfl
  · exact ⟨(1, 2), by simp [L2.atI, L2.ixN, dP], kp (by decide)⟩
  · exact ⟨(1, 3), by simp [L2.atI, L2.ixN, dP], kp (by decide)⟩
  · exact ⟨(2, 3), by simp [L2.atI, L2.ixN, dP], kp (by decide)⟩
  · exact ⟨(3, 4), by simp [L2.atI, L2.ixN, dP], kp (by decide)⟩
  · exact ⟨(2, 5), by simp [L2.atI, L2.ixN, dP], kp (by decide)⟩
  · exact ⟨(9, 10), by simp [L2.atI, L2.ixN, dP], kp (by decide)⟩
theorem three (μ : Store) (x y z : Int) (v : Int) (h0 : 1 ≤ v) (h1 : v < 4) (hx : 2 ≤ x ∧ x ≤ 100) (hy : 2 ≤ y ∧ y ≤ 100) (hz : 2 ≤ z ∧ z ≤ 100) : ∃ w, ixD μ (.new [.int x, .int y, .int z]) (.int (if v - 1 > 0 then v - 1 else 0)) = .ok (.int w) μ ∧ 2 ≤ w ∧ w ≤ 100 := by
  have hv : v = 1 ∨ v = 2 ∨ v = 3 := by omega
  rcases hv with rfl | rfl | rfl
  · exact ⟨x, by simp, hx.1, hx.2⟩
  · exact ⟨y, by simp, hy.1, hy.2⟩
  · exact ⟨z, by simp, hz.1, hz.2⟩
/-- a list by the jar, over a range -/
theorem lc_jar {elt : E} {t : Nat} {ρ : Slots} {n j s m : Nat} {μ : Store} (hm : m ≤ 100) (hs : s ≤ 10) (hn : n ≤ 10 ^ 10) (ht : t < ρ.length) (h : J3 n j μ)
    (he : ∀ (i : Int) (n' : Nat) (μ : Store), n' ≤ 10 ^ 20 → J3 n' j μ → ∃ p μ', (ev elt).e (ρ.set t (some (.int i))) μ = .ok (dP p) μ' ∧ J3 (n' + s) j μ' ∧ μ'.length = μ.length ∧ Kp p) :
    ∃ (ps : List (Int × Int)) (μ' : Store), lcS (.nm t) (evTs .nil) (ev elt).e [] ρ (rangeL 0 1 m) [] μ = .ok (.new (ps.map dP)) μ' ∧ J3 (n + m * s) j μ' ∧ μ'.length = μ.length ∧ ps.length = m ∧ ∀ p ∈ ps, Kp p := by
  have bound : ∀ i, i ≤ m → n + i * s ≤ 10 ^ 20 := fun i hi => by
    have : i * s ≤ 100 * 10 := Nat.mul_le_mul (by omega) hs
    omega
  obtain ⟨ys, μ', h1, ⟨h2, h3⟩, h4, h5⟩ := lcS_inv (tg := .nm t) (elt := (ev elt).e) (ρ := ρ) (fun i μ' => J3 (n + i * s) j μ' ∧ μ'.length = μ.length) (fun y => ∃ p, y = dP p ∧ Kp p) (rangeL 0 1 m) [] 0 μ ⟨by simpa using h, rfl⟩ (by simp [rangeL_len]; omega) fun i d μ2 hd ⟨k1, k2⟩ => by
    have hi : i < m := by have := (List.getElem?_eq_some_iff.mp hd).1; simpa [rangeL_len] using this
    rw [rangeL_get m i 0 1 hi] at hd
    cases hd
    rw [Nat.zero_add] at k1 ⊢
    obtain ⟨p, μ3, q1, q2, q3, q4⟩ := he (0 + (i : Int) * 1) (n + i * s) μ2 (bound i (by omega)) k1
    exact ⟨ρ.set t (some (.int (0 + (i : Int) * 1))), dP p, μ3, by simp [ht], q1, ⟨by rw [Nat.add_mul, Nat.one_mul, ← Nat.add_assoc]; exact q2, q3.trans k2⟩, p, rfl, q4⟩
  rw [rangeL_len, Nat.zero_add] at h2
  rw [rangeL_len] at h4
  have : ∃ ps : List (Int × Int), ys = ps.map dP ∧ ∀ p ∈ ps, Kp p := by
    clear h1 h4
    induction ys with
    | nil => exact ⟨[], rfl, by simp⟩
    | cons y ys ih =>
      obtain ⟨p, rfl, hp⟩ := h5 y List.mem_cons_self
      obtain ⟨ps, rfl, hps⟩ := ih fun z hz => h5 z (List.mem_cons_of_mem _ hz)
      exact ⟨p :: ps, rfl, fun q hq => by
        rcases List.mem_cons.mp hq with rfl | hq
        · exact hp
        · exact hps q hq⟩
  obtain ⟨ps, rfl, hps⟩ := this
  exact ⟨ps, μ', by simpa using h1, h2, h3, by simpa using h4, hps⟩
/-! lists of numbers -/
def dI (xs : List Int) : List D := xs.map fun x => .int x
@[simp] theorem frzL_dI (xs : List Int) : frzL (dI xs) = dI xs := frzL_ints (fun x => x) xs
@[simp] theorem noPtrL_dI (n : Nat) : ∀ xs : List Int, noPtrL n (dI xs) = true
  | [] => rfl
  | x :: xs => noPtrL_dI n xs
theorem intsOf_dI (xs : List Int) : intsOf (dI xs) = some xs := by
  have := intsOf_map (fun x : Int => x) xs
  simpa [dI] using this
def Bd (B : Nat) (xs : List Int) : Prop := ∀ x ∈ xs, 0 ≤ x ∧ x < 2 ^ B
theorem Bd.log {B : Nat} {x : Int} (h : 0 ≤ x ∧ x < 2 ^ B) (hB : B ≤ 8000) : x.natAbs.log2 < 9000 := by
  by_cases h0 : x.natAbs = 0
  · rw [h0]; decide
  · have h1 : x.natAbs < 2 ^ B := by
      have : (x.natAbs : Int) < 2 ^ B := by omega
      exact_mod_cast this
    have := (Nat.log2_lt h0).mpr h1
    omega
/-- the divisor of all -/
def gl (d : Int) (xs : List Int) : Int := xs.foldl (fun d x => (Int.gcd d x : Int)) d
theorem gl_nonneg {xs : List Int} : ∀ {d : Int}, 0 ≤ d → 0 ≤ gl d xs := by
  induction xs with
  | nil => intro d h; exact h
  | cons x xs ih => intro d h; exact ih (Int.natCast_nonneg _)
theorem gl_dvd : ∀ (xs : List Int) (d : Int), gl d xs ∣ d ∧ ∀ x ∈ xs, gl d xs ∣ x
  | [], d => ⟨Int.dvd_refl _, by simp⟩
  | x :: xs, d => by
    obtain ⟨h1, h2⟩ := gl_dvd xs (Int.gcd d x)
    have e : gl d (x :: xs) = gl (Int.gcd d x) xs := rfl
    rw [e]
    refine ⟨Int.dvd_trans h1 (Int.gcd_dvd_left ..), fun y hy => ?_⟩
    rcases List.mem_cons.mp hy with rfl | hy
    · exact Int.dvd_trans h1 (Int.gcd_dvd_right ..)
    · exact h2 y hy
theorem dvd_gl {k : Int} : ∀ (xs : List Int) (d : Int), k ∣ d → (∀ x ∈ xs, k ∣ x) → k ∣ gl d xs
  | [], d, h, _ => h
  | x :: xs, d, h, hx => dvd_gl xs (Int.gcd d x) (Int.dvd_coe_gcd h (hx x List.mem_cons_self)) fun y hy => hx y (List.mem_cons_of_mem _ hy)
theorem gl_pos {xs : List Int} (h : ∀ x ∈ xs, 0 ≤ x) (hs : 0 < xs.sum) : 0 < gl 0 xs ∧ ∃ x ∈ xs, 0 < x ∧ gl 0 xs ≤ x := by
  have ex : ∃ x ∈ xs, 0 < x := by
    apply Classical.byContradiction
    intro hn
    have : xs.sum ≤ 0 := by
      clear hs
      induction xs with
      | nil => simp
      | cons y ys ih =>
        rw [List.sum_cons]
        have h1 : ¬ 0 < y := fun z => hn ⟨y, List.mem_cons_self, z⟩
        have h2 := ih (fun z hz => h z (List.mem_cons_of_mem _ hz)) fun ⟨z, hz, hz2⟩ => hn ⟨z, List.mem_cons_of_mem _ hz, hz2⟩
        omega
    omega
  obtain ⟨x, hx, h0⟩ := ex
  have hd := (gl_dvd xs 0).2 x hx
  have hn : 0 ≤ gl 0 xs := gl_nonneg (Int.le_refl _)
  have hne : gl 0 xs ≠ 0 := fun e => by rw [e] at hd; have := Int.zero_dvd.mp hd; omega
  exact ⟨by omega, x, hx, h0, Int.le_of_dvd h0 hd⟩
/-- the numbers without their divisor -/
def plain (xs : List Int) : List Int := xs.map (· / gl 0 xs)
/-! a content: so many numbers, none below 0, some above, without a divisor -/
structure Ct (m B : Nat) (xs : List Int) : Prop where
  len : xs.length = m
  bd : Bd B xs
  pos : 0 < xs.sum
  gcd : gl 0 xs = 1
theorem sum_le {xs : List Int} {b : Int} (h : ∀ x ∈ xs, x ≤ b) : xs.sum ≤ xs.length * b := by
  induction xs with
  | nil => simp
  | cons x xs ih =>
    have h1 := h x List.mem_cons_self
    have h2 := ih fun y hy => h y (List.mem_cons_of_mem _ hy)
    rw [List.sum_cons, List.length_cons]
    have : ((xs.length + 1 : Nat) : Int) * b = xs.length * b + b := by
      rw [Int.natCast_add, Int.add_mul]; simp
    omega
theorem sum_nonneg {xs : List Int} (h : ∀ x ∈ xs, 0 ≤ x) : 0 ≤ xs.sum := by
  induction xs with
  | nil => simp
  | cons x xs ih =>
    have h1 := h x List.mem_cons_self
    have h2 := ih fun y hy => h y (List.mem_cons_of_mem _ hy)
    rw [List.sum_cons]; omega
theorem plain_mul {xs : List Int} (h : ∀ x ∈ xs, 0 ≤ x) : (plain xs).map (gl 0 xs * ·) = xs := by
  unfold plain
  rw [List.map_map]
  refine (List.map_congr_left fun x hx => ?_).trans (List.map_id _)
  exact Int.mul_ediv_cancel' ((gl_dvd xs 0).2 x hx)
theorem sum_mul (k : Int) : ∀ xs : List Int, (xs.map (k * ·)).sum = k * xs.sum
  | [] => by simp
  | x :: xs => by simp [sum_mul k xs, Int.mul_add]
theorem plain_ct {xs : List Int} {B : Nat} (hb : Bd B xs) (hs : 0 < xs.sum) : Ct xs.length B (plain xs) := by
  have hn := fun x hx => (hb x hx).1
  obtain ⟨g0, _⟩ := gl_pos hn hs
  have hm := plain_mul hn
  refine ⟨by simp [plain], fun x hx => ?_, ?_, ?_⟩
  · unfold plain at hx
    obtain ⟨y, hy, rfl⟩ := List.mem_map.mp hx
    have := hb y hy
    exact ⟨Int.ediv_nonneg this.1 (by omega), Int.lt_of_le_of_lt (Int.ediv_le_self _ this.1) this.2⟩
  · have e := sum_mul (gl 0 xs) (plain xs)
    rw [hm] at e
    rcases Int.lt_or_le 0 (plain xs).sum with h | h
    · exact h
    · have := Int.mul_nonpos_of_nonneg_of_nonpos (show 0 ≤ gl 0 xs by omega) h
      omega
  · -- the divisor of the quotients, times the divisor, divides all
    have q := gl_dvd (plain xs) 0
    have hk : gl 0 xs * gl 0 (plain xs) ∣ gl 0 xs := dvd_gl xs 0 (Int.dvd_zero _) fun x hx => by
      have hq := q.2 (x / gl 0 xs) (List.mem_map.mpr ⟨x, hx, rfl⟩)
      have e := Int.mul_ediv_cancel' ((gl_dvd xs 0).2 x hx)
      obtain ⟨z, hz⟩ := hq
      exact ⟨z, by rw [← e, hz, Int.mul_assoc]⟩
    obtain ⟨z, hz⟩ := hk
    have h0 : 0 ≤ gl 0 (plain xs) := gl_nonneg (Int.le_refl _)
    have e1 : gl 0 xs * 1 = gl 0 xs * (gl 0 (plain xs) * z) := by rw [Int.mul_one, ← Int.mul_assoc]; exact hz
    have e2 := Int.eq_of_mul_eq_mul_left (by omega) e1
    exact Int.eq_one_of_dvd_one h0 ⟨z, e2⟩
/-- one top-up, before the divisor goes -/
def poured (xs : List Int) (s w : Int) (i : Nat) : List Int := (xs.map (s * ·)).set i (s * (xs[i]?.getD 0) + (w - s) * xs.sum)
theorem two_pow {B k : Nat} {x c : Int} (hx : 0 ≤ x) (h : x < 2 ^ B) (hc : 0 ≤ c) (hk : c ≤ 2 ^ k) : c * x < 2 ^ (B + k) ∨ c = 0 := by
  rcases Int.lt_or_le 0 c with h0 | h0
  · left
    have h1 : c * x < c * 2 ^ B := Int.mul_lt_mul_of_pos_left h h0
    have h2 : c * 2 ^ B ≤ 2 ^ k * 2 ^ B := Int.mul_le_mul_of_nonneg_right hk (Int.le_of_lt (Int.pow_pos (by omega)))
    have e : (2 : Int) ^ (B + k) = 2 ^ k * 2 ^ B := by rw [Int.pow_add, Int.mul_comm]
    omega
  · right; omega
theorem natAbs_lt {x : Int} {B : Nat} (h0 : 0 ≤ x) (h : x < 2 ^ B) : x.natAbs < 2 ^ B := by
  have : (x.natAbs : Int) < 2 ^ B := by omega
  exact_mod_cast this

theorem sum_lt {xs : List Int} {B m : Nat} (hb : Bd B xs) (hl : xs.length = m) (hm : m ≤ 8) : 0 ≤ xs.sum ∧ xs.sum < 2 ^ (B + 4) := by
  refine ⟨sum_nonneg fun x hx => (hb x hx).1, ?_⟩
  have h1 := sum_le (xs := xs) (b := 2 ^ B) fun x hx => Int.le_of_lt (hb x hx).2
  have hp : (0 : Int) < 2 ^ B := Int.pow_pos (by omega)
  have h2 : (xs.length : Int) * 2 ^ B ≤ 8 * 2 ^ B := Int.mul_le_mul_of_nonneg_right (by omega) (by omega)
  have e : (2 : Int) ^ (B + 4) = 16 * 2 ^ B := by rw [Int.pow_add, Int.mul_comm]; rfl
  omega
theorem mem_set {xs : List Int} {i : Nat} {v x : Int} (h : x ∈ xs.set i v) : x = v ∨ x ∈ xs := by
  rcases List.mem_or_eq_of_mem_set h with h | h
  · exact .inr h
  · exact .inl h
theorem poured_bd {xs : List Int} {B m i : Nat} {s w : Int} (hb : Bd B xs) (hl : xs.length = m) (hm : m ≤ 8) (hi : i < m) (s1 : 1 ≤ s) (sw : s < w) (w1 : w ≤ 100) : Bd (B + 11) (poured xs s w i) := by
  have hp : (0 : Int) < 2 ^ B := Int.pow_pos (by omega)
  have e : (2 : Int) ^ (B + 11) = 2048 * 2 ^ B := by rw [Int.pow_add, Int.mul_comm]; rfl
  obtain ⟨q1, q2⟩ := sum_lt hb hl hm
  have e4 : (2 : Int) ^ (B + 4) = 16 * 2 ^ B := by rw [Int.pow_add, Int.mul_comm]; rfl
  have mul : ∀ x : Int, 0 ≤ x → x < 2 ^ B → 0 ≤ s * x ∧ s * x ≤ 100 * 2 ^ B := fun x h0 h1 =>
    ⟨Int.mul_nonneg (by omega) h0, Int.le_trans (Int.mul_le_mul_of_nonneg_left (Int.le_of_lt h1) (by omega)) (Int.mul_le_mul_of_nonneg_right (by omega) (by omega))⟩
  intro x hx
  rcases mem_set hx with rfl | hx
  · have hxi : xs[i]? = some xs[i] := List.getElem?_eq_getElem (by omega)
    rw [hxi]
    simp only [Option.getD_some]
    obtain ⟨a1, a2⟩ := hb xs[i] (List.getElem_mem (by omega))
    obtain ⟨b1, b2⟩ := mul xs[i] a1 a2
    have c1 : 0 ≤ (w - s) * xs.sum := Int.mul_nonneg (by omega) q1
    have c2 : (w - s) * xs.sum ≤ 99 * xs.sum := Int.mul_le_mul_of_nonneg_right (by omega) q1
    omega
  · obtain ⟨y, hy, rfl⟩ := List.mem_map.mp hx
    obtain ⟨a1, a2⟩ := hb y hy
    obtain ⟨b1, b2⟩ := mul y a1 a2
    omega

theorem sum_set : ∀ (xs : List Int) (i : Nat) (v : Int), i < xs.length → (xs.set i v).sum = xs.sum - (xs[i]?.getD 0) + v
  | [], i, v, h => by simp at h
  | x :: xs, 0, v, h => by simp; omega
  | x :: xs, i + 1, v, h => by
    have := sum_set xs i v (by simpa using h)
    simp only [List.set_cons_succ, List.sum_cons, List.getElem?_cons_succ, this]
    omega
theorem poured_sum {xs : List Int} {i : Nat} {s w : Int} (hi : i < xs.length) : (poured xs s w i).sum = w * xs.sum := by
  unfold poured
  rw [sum_set _ _ _ (by simpa using hi), sum_mul]
  have e : (xs.map (s * ·))[i]?.getD 0 = s * (xs[i]?.getD 0) := by
    rw [List.getElem?_map, List.getElem?_eq_getElem hi]; rfl
  rw [e, Int.sub_mul]
  omega
def stepC (xs : List Int) (s w : Int) (i : Nat) : List Int := plain (poured xs s w i)
theorem step_ct {xs : List Int} {B m i : Nat} {s w : Int} (h : Ct m B xs) (hm : m ≤ 8) (hi : i < m) (s1 : 1 ≤ s) (sw : s < w) (w1 : w ≤ 100) : Ct m (B + 11) (stepC xs s w i) := by
  have hb := poured_bd h.bd h.len hm hi s1 sw w1
  have hs : 0 < (poured xs s w i).sum := by
    rw [poured_sum (by rw [h.len]; exact hi)]
    exact Int.mul_pos (by omega) h.pos
  have := plain_ct hb hs
  have hl : (poured xs s w i).length = m := by simp [poured, h.len]
  rw [hl] at this
  exact this
/-- one liquid alone -/
def pureC (m i : Nat) : List Int := (List.range m).map fun j => if j = i then 1 else 0
theorem rangeL_eq : ∀ (n : Nat) (lo : Int), rangeL lo 1 n = (List.range n).map fun j => .int (lo + (j : Int))
  | 0, _ => rfl
  | n + 1, lo => by
    rw [rangeL, rangeL_eq n (lo + 1), List.range_succ_eq_map, List.map_cons, List.map_map]
    simp only [Function.comp_def]
    congr 1
    · simp
    · refine List.map_congr_left fun j _ => ?_
      congr 1
      simp; omega
theorem pure_mem {m i : Nat} {x : Int} (h : x ∈ pureC m i) : x = 0 ∨ x = 1 := by
  unfold pureC at h
  obtain ⟨j, _, rfl⟩ := List.mem_map.mp h
  split <;> simp
theorem one_mem {m i : Nat} (hi : i < m) : (1 : Int) ∈ pureC m i := List.mem_map.mpr ⟨i, List.mem_range.mpr hi, by simp⟩
theorem pure_ct {m i : Nat} (hi : i < m) : Ct m 1 (pureC m i) := by
  have hb : Bd 1 (pureC m i) := fun x hx => by
    rcases pure_mem hx with rfl | rfl <;> decide
  refine ⟨by simp [pureC], hb, ?_, ?_⟩
  · apply Classical.byContradiction
    intro hn
    have h0 : (pureC m i).sum = 0 := by
      have := sum_nonneg (xs := pureC m i) fun x hx => (hb x hx).1
      omega
    have key : ∀ xs : List Int, (∀ x ∈ xs, 0 ≤ x) → xs.sum = 0 → ∀ x ∈ xs, x = 0 := fun xs => by
      induction xs with
      | nil => intro _ _ x hx; simp at hx
      | cons y ys ih =>
        intro h hs x hx
        rw [List.sum_cons] at hs
        have h1 := h y List.mem_cons_self
        have h2 := sum_nonneg (xs := ys) fun z hz => h z (List.mem_cons_of_mem _ hz)
        rcases List.mem_cons.mp hx with rfl | hx
        · omega
        · exact ih (fun z hz => h z (List.mem_cons_of_mem _ hz)) (by omega) x hx
    have := key _ (fun x hx => (hb x hx).1) h0 1 (one_mem hi)
    omega
  · have h1 := (gl_dvd (pureC m i) 0).2 1 (one_mem hi)
    exact Int.eq_one_of_dvd_one (gl_nonneg (Int.le_refl _)) h1
theorem atI_last (fs : List D) (x : D) : L2.atI (fs ++ [x]) (-1) = some x := by
  have h1 : -((fs.length : Int) + 1) ≤ -1 := by omega
  have h2 : (-1 + ((fs.length : Int) + 1)).toNat = fs.length := by omega
  simp [L2.atI, L2.ixN, h1, h2]
theorem noPtrL_append (n : Nat) : ∀ a b : List D, noPtrL n (a ++ b) = (noPtrL n a && noPtrL n b)
  | [], b => by simp
  | x :: a, b => by simp [noPtrL_append n a b, Bool.and_assoc]
/-- the contents on the way, the last first told -/
def lastC (xs : List Int) (s w : Int) : List Nat → List Int
  | [] => xs
  | i :: is => lastC (stepC xs s w i) s w is
/-- things made by the jar, over a range -/
theorem lc_jarP {α : Type} (f : α → D) (P : α → Prop) {elt : E} {t : Nat} {ρ : Slots} {n j s m : Nat} {μ : Store} (hm : m ≤ 100) (hs : s ≤ 10) (hn : n ≤ 10 ^ 10) (ht : t < ρ.length) (h : J3 n j μ)
    (he : ∀ (i : Int) (n' : Nat) (μ : Store), n' ≤ 10 ^ 20 → J3 n' j μ → ∃ p μ', (ev elt).e (ρ.set t (some (.int i))) μ = .ok (f p) μ' ∧ J3 (n' + s) j μ' ∧ μ'.length = μ.length ∧ P p) :
    ∃ (ps : List α) (μ' : Store), lcS (.nm t) (evTs .nil) (ev elt).e [] ρ (rangeL 0 1 m) [] μ = .ok (.new (ps.map f)) μ' ∧ J3 (n + m * s) j μ' ∧ μ'.length = μ.length ∧ ps.length = m ∧ ∀ p ∈ ps, P p := by
  have bound : ∀ i, i ≤ m → n + i * s ≤ 10 ^ 20 := fun i hi => by
    have : i * s ≤ 100 * 10 := Nat.mul_le_mul (by omega) hs
    omega
  obtain ⟨ys, μ', h1, ⟨h2, h3⟩, h4, h5⟩ := lcS_inv (tg := .nm t) (elt := (ev elt).e) (ρ := ρ) (fun i μ' => J3 (n + i * s) j μ' ∧ μ'.length = μ.length) (fun y => ∃ p, y = f p ∧ P p) (rangeL 0 1 m) [] 0 μ ⟨by simpa using h, rfl⟩ (by simp [rangeL_len]; omega) fun i d μ2 hd ⟨k1, k2⟩ => by
    have hi : i < m := by have := (List.getElem?_eq_some_iff.mp hd).1; simpa [rangeL_len] using this
    rw [rangeL_get m i 0 1 hi] at hd
    cases hd
    rw [Nat.zero_add] at k1 ⊢
    obtain ⟨p, μ3, q1, q2, q3, q4⟩ := he (0 + (i : Int) * 1) (n + i * s) μ2 (bound i (by omega)) k1
    exact ⟨ρ.set t (some (.int (0 + (i : Int) * 1))), f p, μ3, by simp [ht], q1, ⟨by rw [Nat.add_mul, Nat.one_mul, ← Nat.add_assoc]; exact q2, q3.trans k2⟩, p, rfl, q4⟩
  rw [rangeL_len, Nat.zero_add] at h2
  rw [rangeL_len] at h4
  have : ∃ ps : List α, ys = ps.map f ∧ ∀ p ∈ ps, P p := by
    clear h1 h4
    induction ys with
    | nil => exact ⟨[], rfl, by simp⟩
    | cons y ys ih =>
      obtain ⟨p, rfl, hp⟩ := h5 y List.mem_cons_self
      obtain ⟨ps, rfl, hps⟩ := ih fun z hz => h5 z (List.mem_cons_of_mem _ hz)
      exact ⟨p :: ps, rfl, fun q hq => by
        rcases List.mem_cons.mp hq with rfl | hq
        · exact hp
        · exact hps q hq⟩
  obtain ⟨ps, rfl, hps⟩ := this
  exact ⟨ps, μ', by simpa using h1, h2, h3, by simpa using h4, hps⟩
def dN (is : List Nat) : List D := is.map fun i : Nat => .int (i : Int)
@[simp] theorem frzL_dN (is : List Nat) : frzL (dN is) = dN is := frzL_ints (fun i : Nat => (i : Int)) is
@[simp] theorem noPtrL_dN (n : Nat) : ∀ is : List Nat, noPtrL n (dN is) = true
  | [] => rfl
  | x :: xs => noPtrL_dN n xs
/-- a store of one cell that keeps the jar -/
theorem J3.one {n : Nat} {μ : Store} (h : J3 n 0 μ) (hl : μ.length = 1) : ∃ a b c, μ = [C3 a b c] ∧ JB n a b c := by
  obtain ⟨a, b, c, h1, h2⟩ := h
  match μ, hl, h1 with
  | [x], _, h1 => cases h1; exact ⟨a, b, c, rfl, h2⟩
theorem Ct.mono {m B B' : Nat} {xs : List Int} (h : Ct m B xs) (hB : B ≤ B') : Ct m B' xs :=
  ⟨h.len, fun x hx => ⟨(h.bd x hx).1, Int.lt_of_lt_of_le (h.bd x hx).2 (by
    obtain ⟨k, rfl⟩ := Nat.exists_eq_add_of_le hB
    rw [Int.pow_add]
    have h1 : (1 : Int) ≤ 2 ^ k := by
      have : (0 : Int) < 2 ^ k := Int.pow_pos (by omega)
      omega
    have h2 : (0 : Int) ≤ 2 ^ B := Int.le_of_lt (Int.pow_pos (by omega))
    have := Int.mul_le_mul_of_nonneg_left h1 h2
    omega)⟩, h.pos, h.gcd⟩
/-- the bound of a number that the jar may draw -/
theorem three' (μ : Store) (v : Int) (h0 : 0 ≤ v) (h1 : v < 3) : ∃ w, ixD μ (.new [.int 2, .int 9, .int 200000000000000000000000000000]) (.int v) = .ok (.int w) μ ∧ 2 ≤ w ∧ w ≤ 200000000000000000000000000000 := by
  have hv : v = 0 ∨ v = 1 ∨ v = 2 := by omega
  rcases hv with rfl | rfl | rfl
  · exact ⟨2, by simp, by omega, by omega⟩
  · exact ⟨9, by simp, by omega, by omega⟩
  · exact ⟨200000000000000000000000000000, by simp, by omega, by omega⟩
/-! the program's contents -/
theorem divisor_l0 {B : Nat} (hB : B ≤ 8000) (q0 : Option D) : ∀ (ys : List Int) (d : Int) (q2 : Option D), 0 ≤ d → Bd B ys → ∃ r2, forS (.nm 2) (exSs f_divisor_of_b0) [] (dI ys) [q0, some (.int d), q2] [] = .ok (.nx [q0, some (.int (gl d ys)), r2]) []
  | [], d, q2, _, _ => ⟨q2, by simp [dI, forS, gl]⟩
  | y :: ys, d, q2, h, hb => by
    have hy := hb y List.mem_cons_self
    have hg := r_common_divisor d y (Bd.log hy hB)
    obtain ⟨r2, ih⟩ := divisor_l0 hB q0 ys (Int.gcd d y) (some (.int y)) (by omega) fun z hz => hb z (List.mem_cons_of_mem _ hz)
    refine ⟨r2, ?_⟩
    have body : exSs f_divisor_of_b0 [q0, some (.int d), some (.int y)] [] = .ok (.nx [q0, some (.int (Int.gcd d y)), some (.int y)]) [] := by
      by_cases h1 : d = 0
      · by_cases h2 : y = 0
        · subst h1; subst h2; simp [f_divisor_of_b0]
        · subst h1; simp [f_divisor_of_b0, h2, Bd.log hy hB]
      · simp [f_divisor_of_b0, h1, hg]
    have e : dI (y :: ys) = .int y :: dI ys := rfl
    rw [e]
    simp only [forS, lvOk_nil, if_true]
    simp only [bindT, List.length_cons, List.length_nil, frz, List.set_cons_succ, List.set_cons_zero]
    rw [if_pos (by decide)]
    simp only [body]
    exact ih
theorem r_divisor_of {xs : List Int} {B : Nat} (hB : B ≤ 8000) (hb : Bd B xs) : runF f_divisor_of [.lst (dI xs)] [] = .ok (.int (gl 0 xs)) [] := by
  obtain ⟨r2, h1⟩ := divisor_l0 hB (some (.lst (dI xs))) xs 0 none (Int.le_refl _) hb
  have hw : exS f_divisor_of_l0 [some (.lst (dI xs)), some (.int 0), none] [] = .ok (.nx [some (.lst (dI xs)), some (.int (gl 0 xs)), r2]) [] := by
    simp [f_divisor_of_l0]
    exact h1
  unfold runF
  simp [f_divisor_of, hw]
theorem r_are_parts' {xs : List Int} (h0 : ∀ x ∈ xs, 0 ≤ x) (hp : 0 < xs.sum) (m1 : 1 ≤ xs.length) (m8 : xs.length ≤ 8) : runF f_are_parts [.lst (dI xs)] [] = .ok (.bl true) [] := by
  have hc : ∃ bs, (ev f_are_parts_c0).e [some (.lst (dI xs)), none] [] = .ok (.new bs) [] ∧ boolsOf bs = some (xs.map fun _ => true) := by
    refine ⟨_, ?_, boolsOf_map (fun _ : Int => true) xs⟩
    have := lcS_map (tg := .nm 1) (tst := evTs .nil) (elt := (ev (.bop true (.cons (.call "is_integer" (denF f_is_integer) (.cons (.v 1) .nil) .nil []) (.cons (.cmp (.v 1) (.cons .ge (.k (.int 0)) .nil)) .nil)))).e) (ρ := [some (.lst (dI xs)), none]) (μ := []) (fun x : Int => .int x) (fun x => [some (.lst (dI xs)), some (.int x)]) (fun x => .bl true) xs [] (fun x hx => by
      have := h0 x hx
      simp [this]) (by simp; omega)
    refine lc_of (ds := dI xs) (lv := []) (μ1 := []) (by simp) ?_
    refine Eq.trans this ?_
    simp only [List.nil_append]
  obtain ⟨bs, h1, h2⟩ := hc
  have hl : (dI xs).length = xs.length := by simp [dI]
  have l1 : (1 : Int) ≤ (xs.length : Int) := by omega
  have l8 : (xs.length : Int) ≤ 8 := by omega
  unfold runF
  simp [f_are_parts, h1, h2, hl, l1, l8, intsOf_dI, hp]
theorem r_are_parts {xs : List Int} {m B : Nat} (h : Ct m B xs) (m1 : 1 ≤ m) (m8 : m ≤ 8) : runF f_are_parts [.lst (dI xs)] [] = .ok (.bl true) [] :=
  r_are_parts' (fun x hx => (h.bd x hx).1) h.pos (by rw [h.len]; exact m1) (by rw [h.len]; exact m8)
theorem r_is_content {xs : List Int} {m B : Nat} (h : Ct m B xs) (m1 : 1 ≤ m) (m8 : m ≤ 8) (hB : B ≤ 8000) : runF f_is_content [.lst (dI xs)] [] = .ok (.bl true) [] := by
  have h1 := r_are_parts h m1 m8
  have h2 := r_divisor_of hB h.bd
  rw [h.gcd] at h2
  unfold runF
  simp [f_is_content, h1, h2]
theorem r_need_content {xs : List Int} {m B : Nat} (h : Ct m B xs) (m1 : 1 ≤ m) (m8 : m ≤ 8) (hB : B ≤ 8000) : runF f_need_content [.lst (dI xs)] [] = .ok .non [] := by
  have h1 := r_is_content h m1 m8 hB
  unfold runF
  simp [f_need_content, h1]
/-- a fraction without a divisor -/
def red (s w : Int) : Int × Int := (s / Int.gcd s w, w / Int.gcd s w)
theorem red_gcd {s w : Int} (hw : 0 < w) : 0 < (Int.gcd s w : Int) ∧ (Int.gcd s w : Int) ≤ w := by
  have : 0 < Int.gcd s w := Int.gcd_pos_of_ne_zero_right _ (by omega)
  exact ⟨by omega, Int.le_of_dvd hw (Int.gcd_dvd_right ..)⟩
theorem red_ok {s w : Int} (hw : 0 < w) (hl : w.natAbs.log2 < 9000) : divOk (Int.gcd s w : Int) = true := by
  obtain ⟨h1, h2⟩ := red_gcd (s := s) hw
  unfold divOk
  rw [Bool.and_eq_true]
  refine ⟨decide_eq_true h1, decide_eq_true (log2_lt (b := w.natAbs) (by omega) hl (by omega))⟩
theorem r_simplest {s w : Int} (hw : 0 < w) (hl : w.natAbs.log2 < 9000) : runF f_simplest [.int s, .int w] [] = .ok (dP (red s w)) [] := by
  have hd := red_ok (s := s) hw hl
  unfold runF
  simp [f_simplest, hl, hd, dP, red]
theorem dI_at {xs : List Int} {i : Nat} (h : i < xs.length) : L2.atI (dI xs) (i : Int) = some (.int (xs[i]?.getD 0)) := by
  rw [atI_nat _ _ (by simpa [dI] using h)]
  simp [dI, List.getElem?_eq_getElem h]
theorem Ct.sum_lt {m B : Nat} {xs : List Int} (h : Ct m B xs) (m8 : m ≤ 8) : xs.sum < 2 ^ (B + 4) := (Law.sum_lt h.bd h.len m8).2
theorem Ct.slog {m B : Nat} {xs : List Int} (h : Ct m B xs) (m8 : m ≤ 8) (hB : B ≤ 7900) : xs.sum.natAbs.log2 < 9000 := Bd.log (B := B + 4) ⟨Int.le_of_lt h.pos, h.sum_lt m8⟩ (by omega)
/-! the program's top-ups -/
theorem r_without_divisor {xs : List Int} {B : Nat} (hB : B ≤ 8000) (hb : Bd B xs) (hs : 0 < xs.sum) (hl : xs.length ≤ 100000) : runF f_without_divisor [.lst (dI xs)] [] = .ok (.new (dI (plain xs))) [] := by
  obtain ⟨g0, x, hx, x0, gx⟩ := gl_pos (fun x hx => (hb x hx).1) hs
  have h1 := r_divisor_of hB hb
  have hd : divOk (gl 0 xs) = true := by
    unfold divOk
    rw [Bool.and_eq_true]
    exact ⟨decide_eq_true g0, decide_eq_true (Bd.log (B := B) ⟨by omega, by have := (hb x hx).2; omega⟩ hB)⟩
  have hc : (ev f_without_divisor_c0).e [some (.lst (dI xs)), some (.int (gl 0 xs)), none] [] = .ok (.new (dI (plain xs))) [] := by
    have := lcS_map (tg := .nm 2) (tst := evTs .nil) (elt := (ev (.bin .fdiv (.v 2) (.v 1))).e) (ρ := [some (.lst (dI xs)), some (.int (gl 0 xs)), none]) (μ := []) (fun x : Int => .int x) (fun x => [some (.lst (dI xs)), some (.int (gl 0 xs)), some (.int x)]) (fun x => .int (x / gl 0 xs)) xs [] (fun x hx => by simp [hd]) (by simp; omega)
    refine lc_of (ds := dI xs) (lv := []) (μ1 := []) (by simp) ?_
    refine Eq.trans this ?_
    simp [dI, plain]
  unfold runF
  simp [f_without_divisor, h1, hc]
theorem poured_zip (xs : List Int) (s w : Int) (i : Nat) (hi : i < xs.length) : xs.zipIdx.map (fun q => s * q.1 + (if (q.2 : Int) = (i : Int) then 1 else 0) * ((w - s) * xs.sum)) = poured xs s w i := by
  apply List.ext_getElem
  · simp [poured]
  · intro j h1 h2
    have hj : j < xs.length := by simpa using h1
    simp only [poured, List.getElem_map, List.getElem_zipIdx, List.getElem_set, Nat.zero_add]
    by_cases e : i = j
    · subst e
      simp [List.getElem?_eq_getElem hj]
    · have e' : ¬ ((j : Int) = (i : Int)) := by omega
      simp [e, e']
/-- the last content, each top-up by its own kept share -/
def lastBy (xs : List Int) : List ((Int × Int) × Nat) → List Int
  | [] => xs
  | q :: qs => lastBy (stepC xs q.1.1 q.1.2 q.2) qs
/-- all contents on the way -/
def alongBy (xs : List Int) : List ((Int × Int) × Nat) → List (List Int)
  | [] => [xs]
  | q :: qs => xs :: alongBy (stepC xs q.1.1 q.1.2 q.2) qs
def dQ (q : (Int × Int) × Nat) : D := .tup [dP q.1, .int (q.2 : Int)]
def dL (x : List Int) : D := .lst (dI x)
theorem along_last : ∀ (qs : List ((Int × Int) × Nat)) (c : List Int), ∃ fs, alongBy c qs = fs ++ [lastBy c qs] ∧ fs.length = qs.length
  | [], c => ⟨[], rfl, rfl⟩
  | q :: qs, c => by
    obtain ⟨fs, h, hl⟩ := along_last qs (stepC c q.1.1 q.1.2 q.2)
    exact ⟨c :: fs, by simp [alongBy, lastBy, h], by simp [hl]⟩
theorem lastBy_ct {m : Nat} (hm : m ≤ 8) : ∀ (qs : List ((Int × Int) × Nat)) (c : List Int) (B : Nat), (∀ q ∈ qs, Kp q.1 ∧ q.2 < m) → Ct m B c → Ct m (B + 11 * qs.length) (lastBy c qs)
  | [], c, B, _, h => by simpa [lastBy] using h
  | q :: qs, c, B, hi, h => by
    obtain ⟨⟨k1, k2, k3, k4⟩, hq⟩ := hi q List.mem_cons_self
    have := lastBy_ct hm qs _ (B + 11) (fun j hj => hi j (List.mem_cons_of_mem _ hj)) (step_ct h hm hq k1 k2 k3)
    rw [List.length_cons, show B + 11 * (qs.length + 1) = B + 11 + 11 * qs.length by omega]
    exact this
theorem alongBy_ct {m : Nat} (hm : m ≤ 8) : ∀ (qs : List ((Int × Int) × Nat)) (c : List Int) (B : Nat), (∀ q ∈ qs, Kp q.1 ∧ q.2 < m) → Ct m B c → ∀ x ∈ alongBy c qs, Ct m (B + 11 * qs.length) x
  | [], c, B, _, h, x, hx => by
    simp only [alongBy, List.mem_singleton] at hx
    subst hx; simpa using h
  | q :: qs, c, B, hi, h, x, hx => by
    obtain ⟨⟨k1, k2, k3, k4⟩, hq⟩ := hi q List.mem_cons_self
    simp only [alongBy, List.mem_cons] at hx
    rw [List.length_cons, show B + 11 * (qs.length + 1) = B + 11 + 11 * qs.length by omega]
    rcases hx with rfl | hx
    · exact h.mono (by omega)
    · exact alongBy_ct hm qs _ (B + 11) (fun j hj => hi j (List.mem_cons_of_mem _ hj)) (step_ct h hm hq k1 k2 k3) x hx
theorem noPtrL_dL (n : Nat) : ∀ xs : List (List Int), noPtrL n (xs.map dL) = true
  | [] => rfl
  | x :: xs => by simp [dL, noPtrL_dL n xs]
/-- a list that its holder alone knows -/
def dLn (x : List Int) : D := .new (dI x)
theorem noPtrL_dLn (n : Nat) : ∀ xs : List (List Int), noPtrL n (xs.map dLn) = true
  | [] => rfl
  | x :: xs => by simp [dLn, noPtrL_dLn n xs]
@[simp] theorem frzL_dLn : ∀ xs : List (List Int), frzL (xs.map dLn) = xs.map dL
  | [] => rfl
  | x :: xs => by simp [dLn, dL, frzL_dLn xs]
/-- a call with a cell that it does not change, and plain things -/
theorem callPx {f : Fn} {k : Nat} {Q : List D} {d : D} {xs : List D} {μ : Store} (h : runF f (.ptr 0 :: xs) [.lst Q] = .ok d [.lst Q]) (hk : μ[k]? = some (.lst Q)) (hl : f.ps.length = xs.length + 1) (hx : frzL xs = xs) (hxn : noPtrL 0 xs = true) (hn : noPtrL 0 Q = true) (hd : noPtr 0 d = true) : callD (denF f) (.ptr k :: xs) μ = .ok d μ := by
  obtain ⟨p1, p2, p3⟩ := plain_args xs hxn
  have e1 : frzL (D.ptr k :: xs) = .ptr k :: xs := by simp [frzL, frz, hx]
  have e2 : ptrs (D.ptr k :: xs) = [k] := by simp [ptrs, p1]
  have e3 : renum 0 (D.ptr k :: xs) = .ptr 0 :: xs := by simp [renum, p2]
  have e4 : getCs μ [k] = some [.lst Q] := by simp only [getCs, hk]; rw [if_pos hn]
  have e5 : (D.ptr k :: xs).all okA = true := by rw [List.all_cons, p3]; rfl
  have hkl : k < μ.length := (List.getElem?_eq_some_iff.mp hk).1
  unfold callD
  rw [e1, e2, e3, if_pos ⟨by simp [hl], e5, by simp⟩, e4]
  simp only [denF_run, h]
  have c : cellIn 0 (.lst Q) = true := hn
  rw [if_pos ⟨hd, rfl, by simp [c]⟩]
  show Res.ok d (μ.set k (.lst Q)) = _
  congr 1
  apply List.ext_getElem?
  intro i
  rw [List.getElem?_set]
  split
  · rename_i e
    subst e
    exact hk.symm
  · rfl
theorem lcS_mapV {lv : List (Nat × List D)} {tg : Tn} {tst : Slots → Store → Res Bool} {elt : Slots → Store → Res D} {ρ : Slots} {μ : Store} {α : Type} (hv : lvOk lv μ) (e : α → D) (b : α → Slots) (g : α → D) :
    ∀ (xs : List α) (acc : List D), (∀ x ∈ xs, bindT tg (e x) ρ = some (b x) ∧ tst (b x) μ = .ok true μ ∧ elt (b x) μ = .ok (g x) μ) → acc.length + xs.length ≤ sizeLine → lcS tg tst elt lv ρ (xs.map e) acc μ = .ok (.new (acc ++ xs.map g)) μ
  | [], acc, _, _ => by simp [lcS, hv]
  | x :: xs, acc, h, hl => by
    obtain ⟨h1, h2, h3⟩ := h x List.mem_cons_self
    have hlt : acc.length < sizeLine := by simp at hl ⊢; omega
    simp only [List.map_cons, lcS, if_pos hv, h1, h2, h3, if_pos hlt]
    rw [lcS_mapV hv e b g xs (acc ++ [g x]) (fun y hy => h y (List.mem_cons_of_mem _ hy)) (by simp at hl ⊢; omega)]
    simp
theorem lv_one (Q : List D) : lvOk [(0, Q)] [.lst Q] := by simp [lvOk]
theorem allocL_dI : ∀ (xs : List Int) (μ : Store), allocL (dI xs) μ = (dI xs, μ)
  | [], _ => rfl
  | x :: xs, μ => by
    have := allocL_dI xs μ
    simp only [dI] at this
    simp [dI, this]
/-- where the contents lie: the first one, the list of all, the rest -/
def ptsE (n : Nat) : List D := .ptr 0 :: (List.range' 2 n).map D.ptr
def stE (f0 : List Int) (rest : List (List Int)) : Store := .lst (dI f0) :: .lst (ptsE rest.length) :: rest.map fun c => .lst (dI c)
def lpE (n : Nat) : Nat := if n = 0 then 0 else n + 1
theorem ptsE_succ (n : Nat) : ptsE (n + 1) = ptsE n ++ [.ptr (n + 2)] := by
  unfold ptsE
  rw [List.range'_concat, List.map_append]
  simp [Nat.add_comm]
theorem ptsE_last (n : Nat) : L2.atI (ptsE n) (-1) = some (.ptr (lpE n)) := by
  cases n with
  | zero => rfl
  | succ n => rw [ptsE_succ, atI_last]; simp [lpE]
theorem stE_succ (f0 : List Int) (rest : List (List Int)) (c : List Int) : stE f0 (rest ++ [c]) = (stE f0 rest ++ [Cell.lst (dI c)]).set 1 (Cell.lst (ptsE rest.length ++ [D.ptr (stE f0 rest).length])) := by
  unfold stE
  rw [List.length_append, List.length_singleton, ptsE_succ]
  simp
theorem stE_last (f0 : List Int) (rest : List (List Int)) (c : List Int) : (stE f0 (rest ++ [c]))[lpE (rest ++ [c]).length]? = some (.lst (dI c)) := by
  simp [stE, lpE]
theorem zipL_dQ : ∀ (ps : List (Int × Int)) (is : List Nat), zipL (ps.map dP) (dN is) = (ps.zip is).map dQ
  | [], _ => rfl
  | _ :: _, [] => rfl
  | p :: ps, i :: is => by
    have := zipL_dQ ps is
    simp only [List.map_cons, dN, zipL, List.zip_cons_cons, dQ]
    rw [← this]; rfl
theorem pull_rest (μ : Store) : ∀ (rest : List (List Int)) (k : Nat) (seen : List Nat), (∀ (i : Nat) (c : List Int), rest[i]? = some c → μ[k + i]? = some (.lst (dI c))) → (∀ s ∈ seen, s < k) → pullL 0 μ seen ((List.range' k rest.length).map D.ptr) = some (rest.map dLn)
  | [], k, seen, _, _ => rfl
  | c :: rest, k, seen, h, hs => by
    have h0 := h 0 c rfl
    rw [Nat.add_zero] at h0
    have ih := pull_rest μ rest (k + 1) (k :: seen) (fun i d hd => by
      have := h (i + 1) d (by simpa using hd)
      rwa [show k + (i + 1) = k + 1 + i by omega] at this) fun s hm => by
      rcases List.mem_cons.mp hm with rfl | hm
      · omega
      · have := hs s hm; omega
    have hk : 0 ≤ k ∧ k ∉ seen := ⟨Nat.zero_le _, fun z => by have := hs k z; omega⟩
    rw [List.length_cons, List.range'_succ, List.map_cons, pullL]
    simp only [if_pos hk, h0, noPtrL_dI, if_true, ih, Option.map_some, List.map_cons, dLn]
theorem exit_stE (f0 : List Int) (rest : List (List Int)) : exitD 0 (.ptr 1) (stE f0 rest) = .ok (.new ((f0 :: rest).map dLn)) [] := by
  have h1 : (stE f0 rest)[1]? = some (.lst (ptsE rest.length)) := rfl
  have hp : pullL 0 (stE f0 rest) [1] (ptsE rest.length) = some ((f0 :: rest).map dLn) := by
    have h0 : (stE f0 rest)[0]? = some (.lst (dI f0)) := rfl
    have := pull_rest (stE f0 rest) rest 2 [0, 1] (fun i c hc => by simp [stE, hc, Nat.add_comm 2 i]) (by simp)
    unfold ptsE
    rw [pullL]
    simp only [h0, noPtrL_dI, this]
    rfl
  have hn : noPtrL 0 (ptsE rest.length) = false := by simp [ptsE]
  unfold exitD
  rw [if_pos (by simp), if_neg (by simp)]
  simp only [h1, hn, hp]
  rfl
theorem rep_new1 (μ : Store) (p : Int × Int) (k : Nat) (hk : k ≤ 1000) : repL μ (.new [dP p]) (k : Int) = .ok (.new (List.replicate k (dP p))) μ := by
  have h : repOk [dP p].length (k : Int) = true := by
    unfold repOk
    rw [Bool.and_eq_true]
    exact ⟨decide_eq_true (by omega), decide_eq_true (by rw [sizeLine_val]; simp; omega)⟩
  have : ∀ n : Nat, (List.replicate n (frzL [dP p])).flatten = List.replicate n (dP p) := fun n => by
    induction n with
    | zero => rfl
    | succ n ih => rw [List.replicate_succ, List.flatten_cons, ih, List.replicate_succ]; rfl
  unfold repL
  rw [asJ_new]
  simp only
  rw [if_pos h, this, Int.toNat_natCast]
/-- a row with one kept share -/
def byOne (p : Int × Int) (is : List Nat) : List ((Int × Int) × Nat) := (List.replicate is.length p).zip is
theorem byOne_mem {p : Int × Int} {is : List Nat} {m : Nat} (hp : Kp p) (hi : ∀ i ∈ is, i < m) : ∀ q ∈ byOne p is, Kp q.1 ∧ q.2 < m := fun q hq => by
  obtain ⟨a, b⟩ := q
  have := List.of_mem_zip hq
  rw [(List.mem_replicate.mp this.1).2]
  exact ⟨hp, hi _ this.2⟩
theorem byOne_length (p : Int × Int) (is : List Nat) : (byOne p is).length = is.length := by simp [byOne]
theorem lastC_by (p : Int × Int) : ∀ (is : List Nat) (xs : List Int), lastC xs p.1 p.2 is = lastBy xs (byOne p is)
  | [], xs => rfl
  | i :: is, xs => by
    rw [lastC, lastC_by p is]
    simp [byOne, List.replicate_succ, lastBy]
theorem atI_lastL (fs : List (List Int)) (c : List Int) : L2.atI ((fs ++ [c]).map dLn) (-1) = some (.new (dI c)) := by
  rw [List.map_append]; exact atI_last (fs.map dLn) (dLn c)
/-! loops over ranges, texts of fractions and of lists of numbers -/
theorem rngE {e : E} {ρ : Slots} {μ : Store} {c : Nat} (hc : c ≤ 1000) (h : (ev e).e ρ μ = .ok (.int (c : Int)) μ) : evI (.rng (.cons e .nil)) ρ μ = .ok ⟨rangeL 0 1 c, []⟩ μ := by
  simp [h, rangeD, small62_nat (i := (c : Int)) (by omega) (by omega)]
theorem rloop {t c : Nat} {e : E} {b : Ss} (I : Nat → Slots → Store → Prop) {ρ : Slots} {μ : Store} (hr : evI (.rng (.cons e .nil)) ρ μ = .ok ⟨rangeL 0 1 c, []⟩ μ) (h0 : I 0 ρ μ)
    (step : ∀ i ρ μ, i < c → I i ρ μ → ∃ ρ1 ρ2 μ2, bindT (.nm t) (.int (i : Int)) ρ = some ρ1 ∧ exSs b ρ1 μ = .ok (.nx ρ2) μ2 ∧ I (i + 1) ρ2 μ2) :
    ∃ ρ2 μ2, exS (.frs (.nm t) (.rng (.cons e .nil)) b) ρ μ = .ok (.nx ρ2) μ2 ∧ I c ρ2 μ2 := by
  obtain ⟨ρ2, μ2, h1, h2⟩ := forS_inv (tg := .nm t) (b := exSs b) I (rangeL 0 1 c) 0 ρ μ h0 fun i d ρ μ hd hI => by
    have hi : i < c := by have := (List.getElem?_eq_some_iff.mp hd).1; simpa [rangeL_len] using this
    rw [rangeL_get c i 0 1 hi] at hd
    cases hd
    rw [Nat.zero_add] at hI ⊢
    obtain ⟨ρ1, ρ2, μ2, q1, q2, q3⟩ := step i ρ μ hi hI
    exact ⟨ρ1, ρ2, μ2, by simpa using q1, q2, q3⟩
  exact ⟨ρ2, μ2, fr_of hr h1, by simpa [rangeL_len] using h2⟩
/-- as many turns as cells, at least one, at most c -/
def cells (c : Nat) (ns : List Int) : Nat := max 1 (min c ns.length)
theorem cellsE {c : Nat} {ns : List Int} {ρ : Slots} {μ : Store} (hc : c ≤ 100) (h : ρ[0]? = some (some (.scr ns))) :
    evI (.rng (.cons (.bi .max2 (.cons (.k (.int 1)) (.cons (.bi .min2 (.cons (.k (.int (c : Int))) (.cons (.bi .len (.cons (.v 0) .nil)) .nil))) .nil))) .nil)) ρ μ = .ok ⟨rangeL 0 1 (cells c ns), []⟩ μ := by
  refine rngE (by unfold cells; omega) ?_
  simp [h, max2D, min2D, cells]
  (repeat' split) <;> omega
theorem cells_lt {c k : Nat} {ns : List Int} (h : k < cells c ns) (hc : 1 ≤ c) : k < c := by unfold cells at h; omega
/-! texts -/
def tP (p : Int × Int) : Str := (PyData.tuple [.int p.1, .int p.2]).shown
def tI (xs : List Int) : Str := (PyData.list (xs.map .int)).shown
theorem lg {x : Int} {B n : Nat} (h : 0 ≤ x ∧ x < 2 ^ B) (hB : B ≤ n) (hn : 0 < n) : x.natAbs.log2 < n := by
  by_cases h0 : x.natAbs = 0
  · rw [h0]; simpa using hn
  · have h1 : x.natAbs < 2 ^ B := by
      have : (x.natAbs : Int) < 2 ^ B := by omega
      exact_mod_cast this
    have := (Nat.log2_lt h0).mpr h1
    omega
def Bp (B : Nat) (p : Int × Int) : Prop := (0 ≤ p.1 ∧ p.1 < 2 ^ B) ∧ (0 ≤ p.2 ∧ p.2 < 2 ^ B)
theorem rp_dP {p : Int × Int} {B : Nat} (h : Bp B p) (hB : B ≤ 1900) : Rp 1 (dP p) (.tuple [.int p.1, .int p.2]) 4000 :=
  (Rp.dP (k := 1900) (lg h.1 hB (by omega)) (lg h.2 hB (by omega)) (by omega)).mono (by omega)
theorem repr_dP {μ : Store} {p : Int × Int} {B : Nat} (h : Bp B p) (hB : B ≤ 1900) : reprD (dP p) μ = .ok (.str (tP p)) μ := repr_of (rp_dP h hB) (by omega) (by omega)
theorem txt_dP {μ : Store} {p : Int × Int} {B : Nat} (h : Bp B p) (hB : B ≤ 1900) : eqD μ (.str (tP p)) (.str (tP p)) = some true := eqD_txt (rp_dP h hB).ok
theorem rp_dI {xs : List Int} {B : Nat} (h : Bd B xs) (hB : B ≤ 1900) (hl : xs.length ≤ 1000) : Rp 1 (.lst (dI xs)) (.list (xs.map .int)) 2000000 :=
  (Rp.lstM (n := 0) (L := 1901) (fun x : Int => D.int x) (fun x => PyData.int x) xs fun x hx => Rp.int 0 (k := 1900) (lg (h x hx) hB (by omega)) (by omega)).mono (by
    have : xs.length * (1901 + 2) ≤ 1000 * 1903 := Nat.mul_le_mul hl (by omega)
    omega)
theorem repr_dI {μ : Store} {xs : List Int} {B : Nat} (h : Bd B xs) (hB : B ≤ 1900) (hl : xs.length ≤ 1000) : reprD (.lst (dI xs)) μ = .ok (.str (tI xs)) μ := repr_of (rp_dI h hB hl) (by omega) (by omega)
theorem repr_dIn {μ : Store} {xs : List Int} {B : Nat} (h : Bd B xs) (hB : B ≤ 1900) (hl : xs.length ≤ 1000) : reprD (.new (dI xs)) μ = .ok (.str (tI xs)) μ := repr_dI (μ := μ) h hB hl
theorem txt_dI {μ : Store} {xs : List Int} {B : Nat} (h : Bd B xs) (hB : B ≤ 1900) (hl : xs.length ≤ 1000) : eqD μ (.str (tI xs)) (.str (tI xs)) = some true := eqD_txt (rp_dI h hB hl).ok
theorem red_bd {s w : Int} {B : Nat} (h0 : 0 ≤ s) (h1 : s < 2 ^ B) (h2 : 0 < w) (h3 : w < 2 ^ B) : Bp B (red s w) ∧ 0 < (red s w).2 ∧ (red s w).1 * w = s * (red s w).2 := by
  obtain ⟨g0, g1⟩ := red_gcd (s := s) h2
  obtain ⟨x, hx⟩ := Int.gcd_dvd_left (a := s) (b := w)
  obtain ⟨y, hy⟩ := Int.gcd_dvd_right (a := s) (b := w)
  have e1 : s / (Int.gcd s w : Int) = x := Int.ediv_eq_of_eq_mul_right (by omega) hx
  have e2 : w / (Int.gcd s w : Int) = y := Int.ediv_eq_of_eq_mul_right (by omega) hy
  have a1 := Int.ediv_nonneg h0 (Int.le_of_lt g0)
  have a2 := Int.ediv_le_self (Int.gcd s w : Int) h0
  have b1 := Int.ediv_nonneg (Int.le_of_lt h2) (Int.le_of_lt g0)
  have b2 := Int.ediv_le_self (Int.gcd s w : Int) (Int.le_of_lt h2)
  have b3 : 0 < w / (Int.gcd s w : Int) := by
    rcases Int.lt_or_le 0 (w / (Int.gcd s w : Int)) with h | h
    · exact h
    · have : w / (Int.gcd s w : Int) = 0 := by omega
      rw [this] at e2
      rw [← e2] at hy; simp at hy; omega
  refine ⟨⟨⟨a1, by show s / _ < _; omega⟩, ⟨b1, by show w / _ < _; omega⟩⟩, b3, ?_⟩
  show s / (Int.gcd s w : Int) * w = s * (w / (Int.gcd s w : Int))
  rw [e1, e2]
  generalize (Int.gcd s w : Int) = g at *
  rw [hx, hy, Int.mul_comm g x, Int.mul_assoc]
theorem getD_bd {xs : List Int} {B i : Nat} (h : Bd B xs) : 0 ≤ xs[i]?.getD 0 ∧ xs[i]?.getD 0 < 2 ^ B := by
  cases e : xs[i]? with
  | none => exact ⟨Int.le_refl _, show (0 : Int) < 2 ^ B from Int.pow_pos (by omega)⟩
  | some x => exact h x (List.mem_of_getElem? e)
theorem pow_le {B C : Nat} (h : B ≤ C) : (2 : Int) ^ B ≤ 2 ^ C := by
  obtain ⟨k, rfl⟩ := Nat.exists_eq_add_of_le h
  rw [Int.pow_add]
  have h1 : (1 : Int) ≤ 2 ^ k := by
    have : (0 : Int) < 2 ^ k := Int.pow_pos (by omega)
    omega
  have h2 : (0 : Int) ≤ 2 ^ B := Int.le_of_lt (Int.pow_pos (by omega))
  have := Int.mul_le_mul_of_nonneg_left h1 h2
  omega
theorem Ct.share {m B i : Nat} {xs : List Int} (h : Ct m B xs) (m8 : m ≤ 8) : Bp (B + 4) (red (xs[i]?.getD 0) xs.sum) ∧ 0 < (red (xs[i]?.getD 0) xs.sum).2 ∧ (red (xs[i]?.getD 0) xs.sum).1 * xs.sum = (xs[i]?.getD 0) * (red (xs[i]?.getD 0) xs.sum).2 := by
  obtain ⟨h1, h2⟩ := getD_bd (i := i) h.bd
  exact red_bd h1 (Int.lt_of_lt_of_le h2 (pow_le (by omega))) h.pos (h.sum_lt m8)
theorem eq_dI (μ : Store) (xs : List Int) : eqD μ (.lst (dI xs)) (.lst (dI xs)) = some true := eqD_same (Pl_ints (fun x => x) xs) (Pl_ints (fun x => x) xs) (by omega) (by omega)
theorem eq_dIln (μ : Store) (xs : List Int) : eqD μ (.lst (dI xs)) (.new (dI xs)) = some true := eq_dI μ xs
theorem eq_dInl (μ : Store) (xs : List Int) : eqD μ (.new (dI xs)) (.lst (dI xs)) = some true := eq_dI μ xs
theorem eq_dInn (μ : Store) (xs : List Int) : eqD μ (.new (dI xs)) (.new (dI xs)) = some true := eq_dI μ xs
theorem eq_dP (μ : Store) (p : Int × Int) : eqD μ (dP p) (dP p) = some true := eqD_same (Pl_dP p) (Pl_dP p) (by omega) (by omega)
instance bdDec (B : Nat) (xs : List Int) : Decidable (Bd B xs) := inferInstanceAs (Decidable (∀ x ∈ xs, 0 ≤ x ∧ x < 2 ^ B))
/-! mixtures -/
/-- the product of all bottoms -/
def wh : Int → List (List Int) → Int
  | w, [] => w
  | w, c :: cs => wh (w * c.sum) cs
def addT (t : Int) (f c : List Int) : List Int := List.zipWith (fun a b => a + t * b) f c
def mixL (W : Int) : List Int → List (List Int × Int) → List Int
  | f, [] => f
  | f, q :: qs => mixL W (addT (q.2 * (W / q.1.sum)) f q.1) qs
def mixF (m : Nat) (cs : List (List Int)) (ws : List Int) : List Int := mixL (wh 1 cs) (List.replicate m 0) (cs.zip ws)
theorem wh_bd {m B : Nat} (m8 : m ≤ 8) : ∀ (cs : List (List Int)) (w : Int) (k : Nat), (∀ c ∈ cs, Ct m B c) → 0 < w → w < 2 ^ k → 0 < wh w cs ∧ wh w cs < 2 ^ (k + (B + 4) * cs.length)
  | [], w, k, _, h0, h1 => by simpa [wh] using ⟨h0, h1⟩
  | c :: cs, w, k, h, h0, h1 => by
    have hc := h c List.mem_cons_self
    have hs := hc.sum_lt m8
    have hp := hc.pos
    have e : w * c.sum < 2 ^ (k + (B + 4)) := by
      rw [Int.pow_add]
      have a1 : w * c.sum < 2 ^ k * c.sum := Int.mul_lt_mul_of_pos_right h1 hp
      have a2 : 2 ^ k * c.sum ≤ 2 ^ k * 2 ^ (B + 4) := Int.mul_le_mul_of_nonneg_left (Int.le_of_lt hs) (Int.le_of_lt (Int.pow_pos (by omega)))
      omega
    have := wh_bd m8 cs (w * c.sum) (k + (B + 4)) (fun x hx => h x (List.mem_cons_of_mem _ hx)) (Int.mul_pos h0 hp) e
    rw [List.length_cons, Nat.mul_add, Nat.mul_one, show k + ((B + 4) * cs.length + (B + 4)) = k + (B + 4) + (B + 4) * cs.length by omega]
    exact this
theorem wh_dvd : ∀ (cs : List (List Int)) (w : Int), w ∣ wh w cs ∧ ∀ c ∈ cs, c.sum ∣ wh w cs
  | [], w => ⟨Int.dvd_refl _, by simp⟩
  | c :: cs, w => by
    obtain ⟨h1, h2⟩ := wh_dvd cs (w * c.sum)
    refine ⟨Int.dvd_trans (Int.dvd_mul_right w c.sum) h1, fun x hx => ?_⟩
    rcases List.mem_cons.mp hx with rfl | hx
    · exact Int.dvd_trans (Int.dvd_mul_left w x.sum) h1
    · exact h2 x hx
theorem addT_length {t : Int} {f c : List Int} {m : Nat} (hf : f.length = m) (hc : c.length = m) : (addT t f c).length = m := by simp [addT, hf, hc]
theorem addT_sum : ∀ (t : Int) (f c : List Int), f.length = c.length → (addT t f c).sum = f.sum + t * c.sum
  | t, [], [], _ => by simp [addT]
  | t, x :: f, y :: c, h => by
    have := addT_sum t f c (by simpa using h)
    simp only [addT, List.zipWith_cons_cons, List.sum_cons] at this ⊢
    rw [this, Int.mul_add]; omega
  | t, [], y :: c, h => by simp at h
  | t, x :: f, [], h => by simp at h
theorem addT_mem {t : Int} {f c : List Int} {x : Int} (h : x ∈ addT t f c) : ∃ a ∈ f, ∃ b ∈ c, x = a + t * b := by
  unfold addT at h
  rw [← List.map_uncurry_zip_eq_zipWith] at h
  obtain ⟨q, hq, rfl⟩ := List.mem_map.mp h
  exact ⟨q.1, (List.of_mem_zip (show (q.1, q.2) ∈ _ from hq)).1, q.2, (List.of_mem_zip (show (q.1, q.2) ∈ _ from hq)).2, rfl⟩
theorem mixL_length {W : Int} {m : Nat} : ∀ (qs : List (List Int × Int)) (f : List Int), f.length = m → (∀ q ∈ qs, q.1.length = m) → (mixL W f qs).length = m
  | [], f, hf, _ => hf
  | q :: qs, f, hf, h => mixL_length qs _ (addT_length hf (h q List.mem_cons_self)) fun x hx => h x (List.mem_cons_of_mem _ hx)
theorem mixL_sum {W : Int} {m : Nat} : ∀ (qs : List (List Int × Int)) (f : List Int), f.length = m → (∀ q ∈ qs, q.1.length = m ∧ q.1.sum ∣ W ∧ 0 < q.1.sum) → (mixL W f qs).sum = f.sum + (qs.map (·.2)).sum * W
  | [], f, hf, _ => by simp [mixL]
  | q :: qs, f, hf, h => by
    obtain ⟨h1, h2, h3⟩ := h q List.mem_cons_self
    rw [mixL, mixL_sum qs _ (addT_length hf h1) fun x hx => h x (List.mem_cons_of_mem _ hx), addT_sum _ _ _ (by rw [hf, h1])]
    have e : q.2 * (W / q.1.sum) * q.1.sum = q.2 * W := by rw [Int.mul_assoc, Int.ediv_mul_cancel h2]
    rw [List.map_cons, List.sum_cons, Int.add_mul, e]; omega
theorem mixL_bd {W : Int} {m B V : Nat} (hW0 : 0 < W) (hW : W < 2 ^ V) : ∀ (qs : List (List Int × Int)) (f : List Int) (k : Nat), (∀ x ∈ f, 0 ≤ x ∧ x ≤ k * 2 ^ (V + B + 98)) → (∀ q ∈ qs, Ct m B q.1 ∧ 0 ≤ q.2 ∧ q.2 < 2 ^ 98) → ∀ x ∈ mixL W f qs, 0 ≤ x ∧ x ≤ (k + qs.length : Nat) * 2 ^ (V + B + 98)
  | [], f, k, hf, _ => by simpa [mixL] using hf
  | q :: qs, f, k, hf, h => by
    obtain ⟨h1, h2, h3⟩ := h q List.mem_cons_self
    have hs := h1.pos
    have t0 : 0 ≤ W / q.1.sum := Int.ediv_nonneg (by omega) (by omega)
    have t1 : W / q.1.sum ≤ W := Int.ediv_le_self _ (by omega)
    have := mixL_bd hW0 hW qs (addT (q.2 * (W / q.1.sum)) f q.1) (k + 1) (fun x hx => by
      obtain ⟨a, ha, b, hb, rfl⟩ := addT_mem hx
      obtain ⟨a0, a1⟩ := hf a ha
      obtain ⟨b0, b1⟩ := h1.bd b hb
      have c0 : 0 ≤ q.2 * (W / q.1.sum) * b := Int.mul_nonneg (Int.mul_nonneg h2 t0) b0
      have c1 : q.2 * (W / q.1.sum) * b ≤ 2 ^ 98 * 2 ^ V * 2 ^ B := Int.mul_le_mul (Int.mul_le_mul (Int.le_of_lt h3) (by omega) t0 (Int.le_of_lt (Int.pow_pos (by omega)))) (Int.le_of_lt b1) b0 (Int.mul_nonneg (Int.le_of_lt (Int.pow_pos (by omega))) (Int.le_of_lt (Int.pow_pos (by omega))))
      have e : (2 : Int) ^ 98 * 2 ^ V * 2 ^ B = 2 ^ (V + B + 98) := by rw [← Int.pow_add, ← Int.pow_add]; congr 1; omega
      have e2 : ((k + 1 : Nat) : Int) * 2 ^ (V + B + 98) = k * 2 ^ (V + B + 98) + 2 ^ (V + B + 98) := by rw [Int.natCast_add, Int.add_mul]; simp
      rw [e2]; omega) fun x hx => h x (List.mem_cons_of_mem _ hx)
    rw [List.length_cons, show k + (qs.length + 1) = k + 1 + qs.length by omega]
    exact this
theorem zip_snd : ∀ (cs : List (List Int)) (ws : List Int), ws.length = cs.length → (cs.zip ws).map (·.2) = ws
  | [], [], _ => rfl
  | [], w :: ws, h => by simp at h
  | c :: cs, [], h => by simp at h
  | c :: cs, w :: ws, h => by simp [zip_snd cs ws (by simpa using h)]
structure Mx (m B : Nat) (cs : List (List Int)) (ws : List Int) : Prop where
  ct : ∀ c ∈ cs, Ct m B c
  m1 : 1 ≤ m
  m8 : m ≤ 8
  l1 : 1 ≤ cs.length
  l8 : cs.length ≤ 8
  sz : (B + 4) * cs.length + B + 103 ≤ 7000
  wl : ws.length = cs.length
  wb : Bd 98 ws
  ws0 : 0 < ws.sum
theorem Mx.zip {m B : Nat} {cs : List (List Int)} {ws : List Int} (h : Mx m B cs ws) : ∀ q ∈ cs.zip ws, Ct m B q.1 ∧ q.1 ∈ cs ∧ 0 ≤ q.2 ∧ q.2 < 2 ^ 98 := fun q hq => by
  have := List.of_mem_zip (show (q.1, q.2) ∈ _ from hq)
  exact ⟨h.ct _ this.1, this.1, h.wb _ this.2⟩
theorem Mx.wh {m B : Nat} {cs : List (List Int)} {ws : List Int} (h : Mx m B cs ws) : 0 < wh 1 cs ∧ Law.wh 1 cs < 2 ^ (1 + (B + 4) * cs.length) := wh_bd h.m8 cs 1 1 h.ct (by omega) (by decide)
theorem Mx.len {m B : Nat} {cs : List (List Int)} {ws : List Int} (h : Mx m B cs ws) : (mixF m cs ws).length = m := mixL_length _ _ (by simp) fun q hq => (h.zip q hq).1.len
theorem Mx.sum {m B : Nat} {cs : List (List Int)} {ws : List Int} (h : Mx m B cs ws) : (mixF m cs ws).sum = ws.sum * Law.wh 1 cs := by
  unfold mixF
  rw [mixL_sum (m := m) _ _ (by simp) fun q hq => ⟨(h.zip q hq).1.len, (wh_dvd cs 1).2 _ (h.zip q hq).2.1, (h.zip q hq).1.pos⟩, zip_snd _ _ h.wl]
  simp
theorem Mx.pos {m B : Nat} {cs : List (List Int)} {ws : List Int} (h : Mx m B cs ws) : 0 < (mixF m cs ws).sum := by
  rw [h.sum]; exact Int.mul_pos h.ws0 h.wh.1
theorem Mx.bd {m B : Nat} {cs : List (List Int)} {ws : List Int} (h : Mx m B cs ws) : Bd ((B + 4) * cs.length + B + 103) (mixF m cs ws) := fun x hx => by
  obtain ⟨w0, w1⟩ := h.wh
  have := mixL_bd (m := m) (B := B) w0 w1 (cs.zip ws) (List.replicate m 0) 0 (fun x hx => by rw [(List.mem_replicate.mp hx).2]; exact ⟨by omega, by simp⟩) (fun q hq => ⟨(h.zip q hq).1, (h.zip q hq).2.2⟩) x hx
  refine ⟨this.1, Int.lt_of_le_of_lt this.2 ?_⟩
  have e : (cs.zip ws).length = cs.length := by simp [h.wl]
  rw [e, Nat.zero_add]
  have p : (0 : Int) < 2 ^ (1 + (B + 4) * cs.length + B + 98) := Int.pow_pos (by omega)
  have l8 := h.l8
  have c1 : (cs.length : Int) * 2 ^ (1 + (B + 4) * cs.length + B + 98) ≤ 8 * 2 ^ (1 + (B + 4) * cs.length + B + 98) := Int.mul_le_mul_of_nonneg_right (by omega) (by omega)
  have e2 : (2 : Int) ^ ((B + 4) * cs.length + B + 103) = 16 * 2 ^ (1 + (B + 4) * cs.length + B + 98) := by
    rw [show (B + 4) * cs.length + B + 103 = (1 + (B + 4) * cs.length + B + 98) + 4 by omega, Int.pow_add, Int.mul_comm]; rfl
  omega
theorem Mx.size {m B : Nat} {cs : List (List Int)} {ws : List Int} (h : Mx m B cs ws) : (B + 4) * cs.length + B + 103 ≤ 7000 := h.sz
theorem Mx.hB {m B : Nat} {cs : List (List Int)} {ws : List Int} (h : Mx m B cs ws) : B ≤ 6900 := by have := h.sz; omega
theorem Mx.mixed {m B : Nat} {cs : List (List Int)} {ws : List Int} (h : Mx m B cs ws) : Ct m ((B + 4) * cs.length + B + 103) (plain (mixF m cs ws)) := by
  have := plain_ct h.bd h.pos
  rw [h.len] at this
  exact this
/-! mixed_content -/
@[simp] theorem frzL_dL : ∀ cs : List (List Int), frzL (cs.map dL) = cs.map dL
  | [] => rfl
  | c :: cs => by simp [frzL, dL, frzL_dL cs]
theorem dL_at {cs : List (List Int)} {i : Nat} {c : List Int} (h : cs[i]? = some c) : L2.atI (cs.map dL) (i : Int) = some (.lst (dI c)) := by
  have hi := (List.getElem?_eq_some_iff.mp h).1
  rw [atI_nat _ _ (by simpa using hi), List.getElem?_map, h]; rfl
theorem zip_ints : ∀ (xs ys : List Int), zipL (dI xs) (dI ys) = (xs.zip ys).map fun q => .tup [.int q.1, .int q.2]
  | [], _ => rfl
  | _ :: _, [] => rfl
  | x :: xs, y :: ys => by
    have := zip_ints xs ys
    simp only [dI, List.map_cons, zipL, List.zip_cons_cons] at this ⊢
    rw [this]
theorem addT_zip (t : Int) (f c : List Int) : addT t f c = (f.zip c).map fun q => q.1 + t * q.2 := by
  unfold addT
  rw [← List.map_uncurry_zip_eq_zipWith]; rfl
def dW (q : List Int × Int) : D := .tup [dL q.1, .int q.2]
theorem zip_dW : ∀ (cs : List (List Int)) (ws : List Int), zipL (cs.map dL) (dI ws) = (cs.zip ws).map dW
  | [], _ => rfl
  | _ :: _, [] => rfl
  | c :: cs, w :: ws => by
    have := zip_dW cs ws
    simp only [dI, List.map_cons, zipL, List.zip_cons_cons, dW] at this ⊢
    rw [this]
theorem rep_zero (μ : Store) (k : Nat) (hk : k ≤ 1000) : repL μ (.new [.int 0]) (k : Int) = .ok (.new (dI (List.replicate k 0))) μ := by
  have h : repOk [D.int 0].length (k : Int) = true := by
    unfold repOk
    rw [Bool.and_eq_true]
    exact ⟨decide_eq_true (by omega), decide_eq_true (by rw [sizeLine_val]; simp; omega)⟩
  have : ∀ n : Nat, (List.replicate n (frzL [D.int 0])).flatten = dI (List.replicate n 0) := fun n => by
    induction n with
    | zero => rfl
    | succ n ih => rw [List.replicate_succ, List.flatten_cons, ih, List.replicate_succ]; rfl
  unfold repL
  rw [asJ_new]
  simp only
  rw [if_pos h, this, Int.toNat_natCast]
/-- all times a number, and the divisor away again -/
theorem gl_mul {k : Int} (hk : 0 < k) (xs : List Int) : gl 0 (xs.map (k * ·)) = k * gl 0 xs := by
  have a := gl_nonneg (xs := xs.map (k * ·)) (Int.le_refl 0)
  have b := gl_nonneg (xs := xs) (Int.le_refl 0)
  have h1 : k * gl 0 xs ∣ gl 0 (xs.map (k * ·)) := dvd_gl _ _ (Int.dvd_zero _) fun x hx => by
    obtain ⟨y, hy, rfl⟩ := List.mem_map.mp hx
    exact Int.mul_dvd_mul_left k ((gl_dvd xs 0).2 y hy)
  have h2 : gl 0 (xs.map (k * ·)) ∣ k * gl 0 xs := by
    have hk1 : k ∣ gl 0 (xs.map (k * ·)) := dvd_gl _ _ (Int.dvd_zero _) fun x hx => by
      obtain ⟨y, hy, rfl⟩ := List.mem_map.mp hx
      exact Int.dvd_mul_right k y
    obtain ⟨z, hz⟩ := hk1
    have : z ∣ gl 0 xs := dvd_gl _ _ (Int.dvd_zero _) fun x hx => by
      have := (gl_dvd (xs.map (k * ·)) 0).2 (k * x) (List.mem_map.mpr ⟨x, hx, rfl⟩)
      rw [hz] at this
      exact Int.dvd_of_mul_dvd_mul_left (by omega) this
    rw [hz]; exact Int.mul_dvd_mul_left k this
  exact Int.dvd_antisymm a (Int.mul_nonneg (by omega) b) h2 h1
theorem plain_scale {k : Int} (hk : 0 < k) (xs : List Int) : plain (xs.map (k * ·)) = plain xs := by
  unfold plain
  rw [gl_mul hk, List.map_map]
  refine List.map_congr_left fun x _ => ?_
  show k * x / (k * gl 0 xs) = x / gl 0 xs
  exact Int.mul_ediv_mul_of_pos _ _ hk
theorem Ct.plain {m B : Nat} {xs : List Int} (h : Ct m B xs) : Law.plain xs = xs := by
  unfold Law.plain
  rw [h.gcd]
  simp
theorem plain_times {m B : Nat} {xs : List Int} (h : Ct m B xs) {k : Int} (hk : 0 < k) : plain (xs.map (k * ·)) = xs := by
  rw [plain_scale hk, h.plain]
theorem addT_zero : ∀ (t : Int) (c : List Int), addT t (List.replicate c.length 0) c = c.map (t * ·)
  | t, [] => rfl
  | t, x :: c => by
    have := addT_zero t c
    simp only [addT] at this
    simp [addT, List.replicate_succ, this]
theorem mix_one {m B : Nat} {c : List Int} {w : Int} (h : Ct m B c) (hw : 0 < w) : plain (mixF m [c] [w]) = c := by
  have hp := h.pos
  have : mixF m [c] [w] = c.map (w * ·) := by
    unfold mixF
    simp only [List.zip_cons_cons, List.zip_nil_right, mixL, wh, Int.one_mul]
    rw [Int.ediv_self (by omega), Int.mul_one, ← h.len, addT_zero]
  rw [this, plain_times h hw]
/-! a list that is still held, looked at by a def that does not change it -/
theorem callP {f : Fn} {k : Nat} {Q : List D} {d : D} {μ : Store} (h : runF f [.ptr 0] [.lst Q] = .ok d [.lst Q]) (hk : μ[k]? = some (.lst Q)) (hl : f.ps.length = 1) (hn : noPtrL 0 Q = true) (hd : noPtr 0 d = true) : callD (denF f) [.ptr k] μ = .ok d μ := by
  have e1 : frzL [D.ptr k] = [.ptr k] := rfl
  have e2 : ptrs [D.ptr k] = [k] := rfl
  have e3 : renum 0 [D.ptr k] = [.ptr 0] := rfl
  have e4 : getCs μ [k] = some [.lst Q] := by simp only [getCs, hk]; rw [if_pos hn]
  have hkl : k < μ.length := (List.getElem?_eq_some_iff.mp hk).1
  unfold callD
  rw [e1, e2, e3, if_pos ⟨by simp [hl], rfl, by simp⟩, e4]
  simp only [denF_run, h]
  have c : cellIn 0 (.lst Q) = true := hn
  rw [if_pos ⟨hd, rfl, by simp [c]⟩]
  show Res.ok d (μ.set k (.lst Q)) = _
  congr 1
  apply List.ext_getElem?
  intro i
  rw [List.getElem?_set]
  split
  · rename_i e
    subst e
    exact hk.symm
  · rfl
theorem p_are_parts {xs : List Int} {m B : Nat} (h : Ct m B xs) (m1 : 1 ≤ m) (m8 : m ≤ 8) : runF f_are_parts [.ptr 0] [.lst (dI xs)] = .ok (.bl true) [.lst (dI xs)] := by
  have hc : ∃ bs, (ev f_are_parts_c0).e [some (.ptr 0), none] [.lst (dI xs)] = .ok (.new bs) [.lst (dI xs)] ∧ boolsOf bs = some (xs.map fun _ => true) := by
    refine ⟨_, ?_, boolsOf_map (fun _ : Int => true) xs⟩
    have := lcS_mapV (lv := [(0, dI xs)]) (tg := .nm 1) (tst := evTs .nil) (elt := (ev (.bop true (.cons (.call "is_integer" (denF f_is_integer) (.cons (.v 1) .nil) .nil []) (.cons (.cmp (.v 1) (.cons .ge (.k (.int 0)) .nil)) .nil)))).e) (ρ := [some (.ptr 0), none]) (μ := [.lst (dI xs)]) (lv_one _) (fun x : Int => .int x) (fun x => [some (.ptr 0), some (.int x)]) (fun x => .bl true) xs [] (fun x hx => by
      have := (h.bd x hx).1
      simp [this]) (by have := h.len; simp; omega)
    refine lc_of (ds := dI xs) (lv := [(0, dI xs)]) (μ1 := [.lst (dI xs)]) (by simp) ?_
    refine Eq.trans this ?_
    simp only [List.nil_append]
  obtain ⟨bs, h1, h2⟩ := hc
  have hl : (dI xs).length = m := by simp [dI, h.len]
  have hp := h.pos
  have l1 : (1 : Int) ≤ (m : Int) := by omega
  have l8 : (m : Int) ≤ 8 := by omega
  unfold runF
  simp [f_are_parts, h1, h2, hl, l1, l8, intsOf_dI, hp]
theorem p_divisor_l0 {Q : List D} {B : Nat} (hB : B ≤ 8000) (q0 : Option D) : ∀ (ys : List Int) (d : Int) (q2 : Option D), 0 ≤ d → Bd B ys → ∃ r2, forS (.nm 2) (exSs f_divisor_of_b0) [(0, Q)] (dI ys) [q0, some (.int d), q2] [.lst Q] = .ok (.nx [q0, some (.int (gl d ys)), r2]) [.lst Q]
  | [], d, q2, _, _ => ⟨q2, by simp [dI, forS, gl, lv_one]⟩
  | y :: ys, d, q2, h, hb => by
    have hy := hb y List.mem_cons_self
    have hg := r_common_divisor d y (Bd.log hy hB)
    obtain ⟨r2, ih⟩ := p_divisor_l0 (Q := Q) hB q0 ys (Int.gcd d y) (some (.int y)) (by omega) fun z hz => hb z (List.mem_cons_of_mem _ hz)
    refine ⟨r2, ?_⟩
    have body : exSs f_divisor_of_b0 [q0, some (.int d), some (.int y)] [.lst Q] = .ok (.nx [q0, some (.int (Int.gcd d y)), some (.int y)]) [.lst Q] := by
      by_cases h1 : d = 0
      · by_cases h2 : y = 0
        · subst h1; subst h2; simp [f_divisor_of_b0]
        · subst h1; simp [f_divisor_of_b0, h2, Bd.log hy hB]
      · simp [f_divisor_of_b0, h1, hg]
    have e : dI (y :: ys) = .int y :: dI ys := rfl
    rw [e]
    simp only [forS, if_pos (lv_one Q)]
    simp only [bindT, List.length_cons, List.length_nil, frz, List.set_cons_succ, List.set_cons_zero]
    rw [if_pos (by decide)]
    simp only [body]
    exact ih
theorem p_divisor_of {xs : List Int} {B : Nat} (hB : B ≤ 8000) (hb : Bd B xs) : runF f_divisor_of [.ptr 0] [.lst (dI xs)] = .ok (.int (gl 0 xs)) [.lst (dI xs)] := by
  obtain ⟨r2, h1⟩ := p_divisor_l0 (Q := dI xs) hB (some (.ptr 0)) xs 0 none (Int.le_refl _) hb
  have hw : exS f_divisor_of_l0 [some (.ptr 0), some (.int 0), none] [.lst (dI xs)] = .ok (.nx [some (.ptr 0), some (.int (gl 0 xs)), r2]) [.lst (dI xs)] := fr_of (ds := dI xs) (lv := [(0, dI xs)]) (μ1 := [.lst (dI xs)]) (by simp) h1
  unfold runF
  simp [f_divisor_of, hw]
theorem p_is_content {xs : List Int} {m B : Nat} (h : Ct m B xs) (m1 : 1 ≤ m) (m8 : m ≤ 8) (hB : B ≤ 8000) : runF f_is_content [.ptr 0] [.lst (dI xs)] = .ok (.bl true) [.lst (dI xs)] := by
  have h1 : callD (denF f_are_parts) [.ptr 0] [.lst (dI xs)] = .ok (.bl true) [.lst (dI xs)] := callP (p_are_parts h m1 m8) rfl rfl (by simp) rfl
  have h2 := p_divisor_of hB h.bd
  rw [h.gcd] at h2
  have h3 : callD (denF f_divisor_of) [.ptr 0] [.lst (dI xs)] = .ok (.int 1) [.lst (dI xs)] := callP h2 rfl rfl (by simp) rfl
  unfold runF
  simp [f_is_content, -callD, h1, h3]
theorem contentP {xs : List Int} {m B k : Nat} {μ : Store} (h : Ct m B xs) (m1 : 1 ≤ m) (m8 : m ≤ 8) (hB : B ≤ 8000) (hk : μ[k]? = some (.lst (dI xs))) : callD (denF f_is_content) [.ptr k] μ = .ok (.bl true) μ :=
  callP (p_is_content h m1 m8 hB) hk rfl (by simp) rfl
/-- things made by the jar, over a range, told by a predicate alone -/
theorem lc_jarQ (P : D → Prop) {elt : E} {t : Nat} {ρ : Slots} {n j s m : Nat} {μ : Store} (hm : m ≤ 100) (hs : s ≤ 1000) (hn : n ≤ 10 ^ 8) (ht : t < ρ.length) (h : J3 n j μ)
    (he : ∀ (i : Int) (n' : Nat) (μ : Store), n' ≤ 10 ^ 9 → J3 n' j μ → ∃ d μ', (ev elt).e (ρ.set t (some (.int i))) μ = .ok d μ' ∧ J3 (n' + s) j μ' ∧ μ'.length = μ.length ∧ P d) :
    ∃ (ys : List D) (μ' : Store), lcS (.nm t) (evTs .nil) (ev elt).e [] ρ (rangeL 0 1 m) [] μ = .ok (.new ys) μ' ∧ J3 (n + m * s) j μ' ∧ μ'.length = μ.length ∧ ys.length = m ∧ ∀ y ∈ ys, P y := by
  have bound : ∀ i, i ≤ m → n + i * s ≤ 10 ^ 9 := fun i hi => by
    have : i * s ≤ 100 * 1000 := Nat.mul_le_mul (by omega) hs
    omega
  obtain ⟨ys, μ', h1, ⟨h2, h3⟩, h4, h5⟩ := lcS_inv (tg := .nm t) (elt := (ev elt).e) (ρ := ρ) (fun i μ' => J3 (n + i * s) j μ' ∧ μ'.length = μ.length) P (rangeL 0 1 m) [] 0 μ ⟨by simpa using h, rfl⟩ (by simp [rangeL_len]; omega) fun i d μ2 hd ⟨k1, k2⟩ => by
    have hi : i < m := by have := (List.getElem?_eq_some_iff.mp hd).1; simpa [rangeL_len] using this
    rw [rangeL_get m i 0 1 hi] at hd
    cases hd
    rw [Nat.zero_add] at k1 ⊢
    obtain ⟨y, μ3, q1, q2, q3, q4⟩ := he (0 + (i : Int) * 1) (n + i * s) μ2 (bound i (by omega)) k1
    exact ⟨ρ.set t (some (.int (0 + (i : Int) * 1))), y, μ3, by simp [ht], q1, ⟨by rw [Nat.add_mul, Nat.one_mul, ← Nat.add_assoc]; exact q2, q3.trans k2⟩, q4⟩
  rw [rangeL_len, Nat.zero_add] at h2
  rw [rangeL_len] at h4
  exact ⟨ys, μ', by simpa using h1, h2, h3, h4, h5⟩
theorem frz_pick {α : Type} (f : α → D) (P : α → Prop) : ∀ {ys : List D}, (∀ y ∈ ys, ∃ a, frz y = f a ∧ P a) → ∃ as : List α, frzL ys = as.map f ∧ as.length = ys.length ∧ ∀ a ∈ as, P a
  | [], _ => ⟨[], rfl, rfl, by simp⟩
  | y :: ys, h => by
    obtain ⟨a, h1, h2⟩ := h y List.mem_cons_self
    obtain ⟨as, h3, h4, h5⟩ := frz_pick f P (ys := ys) fun z hz => h z (List.mem_cons_of_mem _ hz)
    exact ⟨a :: as, by simp [frzL, h1, h3], by simp [h4], fun b hb => by
      rcases List.mem_cons.mp hb with rfl | hb
      · exact h2
      · exact h5 b hb⟩
/-- a call that changes the jar's cell and no other -/
theorem call3S {f : Fn} {Q' : Int → Int → Int → Prop} {P : D → Prop} {k : Nat} {μ : Store} {xs : List D} {a b c : Int} (hps : xs.length + 1 = f.ps.length) (hx : frzL xs = xs) (hn : noPtrL 0 xs = true) (h1 : μ[k]? = some (C3 a b c))
    (spec : ∃ d a' b' c', runF f (.ptr 0 :: xs) [C3 a b c] = .ok d [C3 a' b' c'] ∧ Q' a' b' c' ∧ noPtr 0 d = true ∧ P d) : ∃ d a' b' c', callD (denF f) (.ptr k :: xs) μ = .ok d (μ.set k (C3 a' b' c')) ∧ Q' a' b' c' ∧ P d := by
  obtain ⟨d, a', b', c', h3, h4, h5, h6⟩ := spec
  obtain ⟨p1, p2, p3⟩ := plain_args xs hn
  have hk : k < μ.length := (List.getElem?_eq_some_iff.mp h1).1
  refine ⟨d, a', b', c', ?_, h4, h6⟩
  have e1 : (D.ptr k :: xs).length = (denF f).ps.length := by simpa using hps
  have e2 : frzL (D.ptr k :: xs) = .ptr k :: xs := by simp [frzL, frz, hx]
  have e3 : ptrs (D.ptr k :: xs) = [k] := by simp [ptrs, p1]
  have e4 : renum 0 (D.ptr k :: xs) = .ptr 0 :: xs := by simp [renum, p2]
  have e5 : (D.ptr k :: xs).all okA = true := by rw [List.all_cons, p3]; rfl
  have e6 : getCs μ [k] = some [C3 a b c] := by simp only [getCs, h1, C3]; rfl
  unfold callD
  rw [e2, e3, e4, if_pos ⟨e1, e5, by simp⟩, e6]
  simp only [denF_run, h3, h5]
  rw [if_pos ⟨trivial, rfl, rfl⟩]
  rfl
theorem rp_ct (n : Nat) {xs : List Int} {B : Nat} (h : Bd B xs) (hB : B ≤ 1900) (hl : xs.length ≤ 8) : Rp (n + 1) (.lst (dI xs)) (.list (xs.map .int)) 16000 :=
  (Rp.lstM (n := n) (L := 1901) (fun x : Int => D.int x) (fun x => PyData.int x) xs fun x hx => Rp.int n (k := 1900) (lg (h x hx) hB (by omega)) (by omega)).mono (by
    have : xs.length * (1901 + 2) ≤ 8 * 1903 := Nat.mul_le_mul hl (by omega)
    omega)
def pL (cs : List (List Int)) : PyData := .list (cs.map fun c => .list (c.map .int))
theorem rp_cts (n : Nat) {cs : List (List Int)} {B : Nat} (h : ∀ c ∈ cs, Bd B c ∧ c.length ≤ 8) (hB : B ≤ 1900) (hl : cs.length ≤ 100) : Rp (n + 2) (.lst (cs.map dL)) (pL cs) 1700000 :=
  (Rp.lstM (n := n + 1) (L := 16000) dL (fun c => PyData.list (c.map .int)) cs fun c hc => rp_ct n (h c hc).1 hB (h c hc).2).mono (by
    have : cs.length * (16000 + 2) ≤ 100 * 16002 := Nat.mul_le_mul hl (by omega)
    omega)
theorem two_items {n L : Nat} {x y : D} {p q : PyData} (hx : Rp n x p L) (hy : Rp n y q L) : Rp (n + 1) (.new [x, y]) (.list [p, q]) (2 * (L + 2) + 3) :=
  Rp.new (xs := [x, y]) (ps := [p, q]) rfl fun i d r e1 e2 => by
    match i, e1, e2 with
    | 0, e1, e2 => cases e1; cases e2; exact hx
    | 1, e1, e2 => cases e1; cases e2; exact hy
    | i + 2, e1, e2 => simp at e1
theorem sum_pos_of {xs : List Int} {i : Nat} {v : Int} (h : ∀ x ∈ xs, 0 ≤ x) (hi : i < xs.length) (hv : 0 < v) : 0 < (xs.set i v).sum := by
  rw [sum_set _ _ _ hi]
  have h2 : xs[i]?.getD 0 ≤ xs.sum := by
    rw [List.getElem?_eq_getElem hi]
    have : ∀ (xs : List Int) (i : Nat) (hi : i < xs.length), (∀ x ∈ xs, 0 ≤ x) → xs[i] ≤ xs.sum := fun xs => by
      induction xs with
      | nil => intro i hi; simp at hi
      | cons x xs ih =>
        intro i hi h
        have h0 := h x List.mem_cons_self
        have h1 := sum_nonneg (xs := xs) fun y hy => h y (List.mem_cons_of_mem _ hy)
        cases i with
        | zero => simp; omega
        | succ i =>
          have := ih i (by simpa using hi) fun y hy => h y (List.mem_cons_of_mem _ hy)
          simp only [List.getElem_cons_succ, List.sum_cons]; omega
    exact this xs i hi h
  omega
/-! kept shares in a list; topped_by, topped -/
/-- things made by the jar, one for each item -/
theorem lc_jarD (P : D → Prop) {elt : E} {t : Nat} {ρ : Slots} {n j s : Nat} {μ : Store} (ds : List D) (hm : ds.length ≤ 100) (hs : s ≤ 1000) (hn : n ≤ 10 ^ 8) (ht : t < ρ.length) (h : J3 n j μ)
    (he : ∀ (d : D) (n' : Nat) (μ : Store), d ∈ ds → n' ≤ 10 ^ 9 → J3 n' j μ → ∃ y μ', (ev elt).e (ρ.set t (some (frz d))) μ = .ok y μ' ∧ J3 (n' + s) j μ' ∧ μ'.length = μ.length ∧ P y) :
    ∃ (ys : List D) (μ' : Store), lcS (.nm t) (evTs .nil) (ev elt).e [] ρ ds [] μ = .ok (.new ys) μ' ∧ J3 (n + ds.length * s) j μ' ∧ μ'.length = μ.length ∧ ys.length = ds.length ∧ ∀ y ∈ ys, P y := by
  have bound : ∀ i, i ≤ ds.length → n + i * s ≤ 10 ^ 9 := fun i hi => by
    have : i * s ≤ 100 * 1000 := Nat.mul_le_mul (by omega) hs
    omega
  obtain ⟨ys, μ', h1, ⟨h2, h3⟩, h4, h5⟩ := lcS_inv (tg := .nm t) (elt := (ev elt).e) (ρ := ρ) (fun i μ' => J3 (n + i * s) j μ' ∧ μ'.length = μ.length) P ds [] 0 μ ⟨by simpa using h, rfl⟩ (by simp; omega) fun i d μ2 hd ⟨k1, k2⟩ => by
    have hi := (List.getElem?_eq_some_iff.mp hd).1
    rw [Nat.zero_add] at k1 ⊢
    obtain ⟨y, μ3, q1, q2, q3, q4⟩ := he d (n + i * s) μ2 (List.mem_of_getElem? hd) (bound i (by omega)) k1
    exact ⟨ρ.set t (some (frz d)), y, μ3, by simp [ht], q1, ⟨by rw [Nat.add_mul, Nat.one_mul, ← Nat.add_assoc]; exact q2, q3.trans k2⟩, q4⟩
  rw [Nat.zero_add] at h2
  exact ⟨ys, μ', by simpa using h1, h2, h3, h4, h5⟩
theorem dP_pick {P : Int × Int → Prop} : ∀ {ys : List D}, (∀ y ∈ ys, ∃ p, y = dP p ∧ P p) → ∃ ps : List (Int × Int), ys = ps.map dP ∧ ∀ p ∈ ps, P p
  | [], _ => ⟨[], rfl, by simp⟩
  | y :: ys, h => by
    obtain ⟨p, rfl, hp⟩ := h y List.mem_cons_self
    obtain ⟨ps, rfl, hps⟩ := dP_pick (ys := ys) fun z hz => h z (List.mem_cons_of_mem _ hz)
    exact ⟨p :: ps, rfl, fun q hq => by
      rcases List.mem_cons.mp hq with rfl | hq
      · exact hp
      · exact hps q hq⟩
theorem rp_dN (n : Nat) {is : List Nat} {m : Nat} (hi : ∀ i ∈ is, i < m) (hm : m ≤ 1000) (hl : is.length ≤ 1000) : Rp (n + 1) (.lst (dN is)) (.list (is.map fun i : Nat => .int (i : Int))) 20000 :=
  (Rp.lstM (n := n) (L := 11) (fun i : Nat => D.int (i : Int)) (fun i => PyData.int (i : Int)) is fun x hx => Rp.int n (k := 10) (lg (B := 10) ⟨by omega, by have := hi x hx; omega⟩ (by omega) (by omega)) (by omega)).mono (by
    have : is.length * (11 + 2) ≤ 1000 * 13 := Nat.mul_le_mul hl (by omega)
    omega)
theorem Rp.dP' (n : Nat) {p : Int × Int} {k : Nat} (h1 : p.1.natAbs.log2 < k) (h2 : p.2.natAbs.log2 < k) (hk : k ≤ 1920) : Rp (n + 1) (dP p) (.tuple [.int p.1, .int p.2]) (2 * (k + 3) + 3) :=
  Rp.tup (n := n) (L := k + 1) rfl fun i x q e1 e2 => by
    match i, e1, e2 with
    | 0, e1, e2 => cases e1; cases e2; exact Rp.int n h1 hk
    | 1, e1, e2 => cases e1; cases e2; exact Rp.int n h2 hk
    | i + 2, e1, e2 => simp at e1
theorem Kp.lg {p : Int × Int} (h : Kp p) : p.1.natAbs.log2 < 10 ∧ p.2.natAbs.log2 < 10 := by
  obtain ⟨h1, h2, h3, _⟩ := h
  exact ⟨Law.lg (B := 10) ⟨by omega, by omega⟩ (by omega) (by omega), Law.lg (B := 10) ⟨by omega, by omega⟩ (by omega) (by omega)⟩
theorem rp_dPs (n : Nat) {ps : List (Int × Int)} (h : ∀ p ∈ ps, Kp p) (hl : ps.length ≤ 1000) : Rp (n + 2) (.lst (ps.map dP)) (.list (ps.map fun p => .tuple [.int p.1, .int p.2])) 40000 :=
  (Rp.lstM (n := n + 1) (L := 29) dP (fun p => PyData.tuple [.int p.1, .int p.2]) ps fun p hp => Rp.dP' n (k := 10) (h p hp).lg.1 (h p hp).lg.2 (by omega)).mono (by
    have : ps.length * (29 + 2) ≤ 1000 * 31 := Nat.mul_le_mul hl (by omega)
    omega)
theorem rep_dP (μ : Store) (p : Int × Int) (k : Nat) (hk : k ≤ 1000) : repL μ (.new [dP p]) (k : Int) = .ok (.new ((List.replicate k p).map dP)) μ := by
  rw [rep_new1 μ p k hk, List.map_replicate]
theorem J3.get {n j : Nat} {μ : Store} (h : J3 n j μ) : ∃ a b c, μ[j]? = some (C3 a b c) ∧ JB n a b c := h
/-! all contents on the way, by the law; lists that lie in cells -/
theorem byOne_cons (p : Int × Int) (i : Nat) (is : List Nat) : byOne p (i :: is) = (p, i) :: byOne p is := by simp [byOne, List.replicate_succ]
theorem along_length : ∀ (qs : List ((Int × Int) × Nat)) (c : List Int), (alongBy c qs).length = qs.length + 1
  | [], c => rfl
  | q :: qs, c => by simp [alongBy, along_length qs]
/-- lists in cells, from k on -/
def ptsF (k n : Nat) : List D := (List.range' k n).map D.ptr
theorem allocL_dLn : ∀ (cs : List (List Int)) (μ : Store), allocL (cs.map dLn) μ = (ptsF μ.length cs.length, μ ++ cs.map fun c => Cell.lst (dI c))
  | [], μ => by simp [ptsF]
  | c :: cs, μ => by
    have ih := allocL_dLn cs (μ ++ [.lst (dI c)])
    have e := allocL_dI c μ
    simp only [List.map_cons, allocL, dLn, allocT, e, frzL_dI]
    rw [ih]
    simp [ptsF, List.range'_succ]
@[simp] theorem frzL_ptsF (k n : Nat) : frzL (ptsF k n) = ptsF k n := by
  unfold ptsF
  induction n generalizing k with
  | zero => rfl
  | succ n ih => rw [List.range'_succ, List.map_cons, frzL, ih]; rfl
theorem ptsF_get {k n i : Nat} (h : i < n) : (ptsF k n)[i]? = some (.ptr (k + i)) := by
  unfold ptsF
  rw [List.getElem?_map, List.getElem?_range' h]
  simp
theorem mapO_congr {f g : D → Option PyData} : ∀ {xs ys : List D}, xs.length = ys.length → (∀ (i : Nat) (x y : D), xs[i]? = some x → ys[i]? = some y → f x = g y) → mapO f xs = mapO g ys
  | [], [], _, _ => rfl
  | [], _ :: _, h, _ => by simp at h
  | _ :: _, [], h, _ => by simp at h
  | x :: xs, y :: ys, h, k => by
    have h1 := k 0 x y rfl rfl
    have h2 := mapO_congr (xs := xs) (ys := ys) (f := f) (g := g) (by simpa using h) fun i y q e1 e2 => k (i + 1) y q (by simpa using e1) (by simpa using e2)
    simp only [mapO, h1, h2]
theorem toP_cells {μ : Store} {n k f : Nat} {cs : List (List Int)} (h : μ[n]? = some (.lst (ptsF k cs.length))) (hc : ∀ (i : Nat) (c : List Int), cs[i]? = some c → μ[k + i]? = some (.lst (dI c))) : toP μ (f + 2) (.ptr n) = toP μ (f + 2) (.lst (cs.map dL)) := by
  rw [toP_ptr (n := f + 1) h]
  simp only [toP]
  congr 1
  refine mapO_congr (by simp [ptsF]) fun i x y e1 e2 => ?_
  have hi : i < cs.length := by have := (List.getElem?_eq_some_iff.mp e2).1; simpa using this
  rw [ptsF_get hi] at e1
  cases e1
  rw [List.getElem?_map, Option.map_eq_some_iff] at e2
  obtain ⟨c, e3, rfl⟩ := e2
  exact toP_ptr (n := f) (hc i c e3)
theorem repr_cells {μ : Store} {n k : Nat} {cs : List (List Int)} (h : μ[n]? = some (.lst (ptsF k cs.length))) (hc : ∀ (i : Nat) (c : List Int), cs[i]? = some c → μ[k + i]? = some (.lst (dI c))) : reprD (.ptr n) μ = reprD (.lst (cs.map dL)) μ := by
  unfold reprD
  rw [toP_cells (f := 38) h hc]
theorem eq_LL (μ : Store) (cs : List (List Int)) : eqD μ (.lst (cs.map dL)) (.lst (cs.map dL)) = some true := by
  have pl : Pl 2 (.lst (cs.map dL)) (pL cs) := .lst (by simp) (map_items (R := fun d p => Pl 1 d p) dL (fun c => PyData.list (c.map .int)) cs fun c _ => Pl_ints (fun x => x) c)
  exact eqD_same pl pl (by omega) (by omega)
theorem eq_LLn (μ : Store) (cs : List (List Int)) : eqD μ (.new (cs.map dLn)) (.lst (cs.map dL)) = some true := by
  have pl : Pl 2 (.lst (cs.map dL)) (pL cs) := .lst (by simp) (map_items (R := fun d p => Pl 1 d p) dL (fun c => PyData.list (c.map .int)) cs fun c _ => Pl_ints (fun x => x) c)
  have pn : Pl 2 (.new (cs.map dLn)) (pL cs) := .new (by simp) (map_items (R := fun d p => Pl 1 d p) dLn (fun c => PyData.list (c.map .int)) cs fun c _ => by
    have := Pl_ints (fun x : Int => x) c
    cases this with
    | lst h1 h2 => exact .new h1 h2)
  exact eqD_same pn pl (by omega) (by omega)
theorem cut_last (xs : List D) (x : D) : cutD (xs ++ [x]) none (some (-1)) = xs := by
  have e : HT.sIx (xs ++ [x]).length (xs ++ [x]).length (some (-1)) = xs.length := by
    unfold HT.sIx
    simp
    omega
  unfold cutD
  rw [HT.sIx_none, e]
  simp
/-! shares as rational numbers -/
def sh (c : List Int) (i : Nat) : Rat := ((c[i]?.getD 0 : Int) : Rat) / ((c.sum : Int) : Rat)
theorem rne {x : Int} (h : 0 < x) : ((x : Int) : Rat) ≠ 0 := fun e => by
  have : x = 0 := by exact_mod_cast e
  omega
theorem map_at (k : Int) (xs : List Int) (i : Nat) : (xs.map (k * ·))[i]?.getD 0 = k * (xs[i]?.getD 0) := by
  rw [List.getElem?_map]
  cases xs[i]? with
  | none => simp
  | some x => rfl
theorem sh_scale {k : Int} (hk : 0 < k) (xs : List Int) (hs : 0 < xs.sum) (i : Nat) : sh (xs.map (k * ·)) i = sh xs i := by
  unfold sh
  rw [map_at, sum_mul, Rat.intCast_mul, Rat.intCast_mul]
  have h1 := rne hk
  have h2 := rne hs
  grind
theorem plain_sum_pos {xs : List Int} (h : ∀ x ∈ xs, 0 ≤ x) (hs : 0 < xs.sum) : 0 < (plain xs).sum ∧ 0 < gl 0 xs := by
  obtain ⟨g0, _⟩ := gl_pos h hs
  have e := sum_mul (gl 0 xs) (plain xs)
  rw [plain_mul h] at e
  refine ⟨?_, g0⟩
  rcases Int.lt_or_le 0 (plain xs).sum with z | z
  · exact z
  · have := Int.mul_nonpos_of_nonneg_of_nonpos (show 0 ≤ gl 0 xs by omega) z
    omega
theorem sh_plain {xs : List Int} (h : ∀ x ∈ xs, 0 ≤ x) (hs : 0 < xs.sum) (i : Nat) : sh (plain xs) i = sh xs i := by
  obtain ⟨p, g0⟩ := plain_sum_pos h hs
  have := sh_scale g0 (plain xs) p i
  rw [plain_mul h] at this
  exact this.symm
theorem sh_cross {c d : List Int} {i : Nat} (hc : 0 < c.sum) (hd : 0 < d.sum) (h : sh c i = sh d i) : (c[i]?.getD 0) * d.sum = (d[i]?.getD 0) * c.sum := by
  unfold sh at h
  have h1 := rne hc
  have h2 := rne hd
  have : ((c[i]?.getD 0 : Int) : Rat) * ((d.sum : Int) : Rat) = ((d[i]?.getD 0 : Int) : Rat) * ((c.sum : Int) : Rat) := by grind
  rw [← Rat.intCast_mul, ← Rat.intCast_mul] at this
  exact_mod_cast this
theorem Ct.ext {m B B' : Nat} {c d : List Int} (hc : Ct m B c) (hd : Ct m B' d) (h : ∀ i, i < m → sh c i = sh d i) : c = d := by
  have e : c.map (d.sum * ·) = d.map (c.sum * ·) := by
    apply List.ext_getElem
    · simp [hc.len, hd.len]
    · intro i h1 h2
      have hi : i < m := by have := hc.len; simp at h1; omega
      have := sh_cross hc.pos hd.pos (h i hi)
      rw [List.getElem?_eq_getElem (by rw [hc.len]; exact hi), List.getElem?_eq_getElem (by rw [hd.len]; exact hi)] at this
      simp only [Option.getD_some] at this
      rw [List.getElem_map, List.getElem_map, Int.mul_comm, this, Int.mul_comm]
  have h1 := plain_times hc hd.pos
  have h2 := plain_times hd hc.pos
  rw [e] at h1
  exact h1.symm.trans h2
theorem poured_at {xs : List Int} {s w : Int} {j : Nat} (i : Nat) (hj : j < xs.length) : (poured xs s w j)[i]?.getD 0 = s * (xs[i]?.getD 0) + if i = j then (w - s) * xs.sum else 0 := by
  unfold poured
  rw [List.getElem?_set]
  by_cases e : j = i
  · subst e
    rw [if_pos rfl, if_pos (by simpa using hj), if_pos rfl]; rfl
  · rw [if_neg e, if_neg (Ne.symm e), Int.add_zero]
    exact map_at s xs i
def ups (s w : Int) (i j : Nat) : Rat := if i = j then ((w - s : Int) : Rat) / ((w : Int) : Rat) else 0
theorem sh_poured {xs : List Int} {s w : Int} {j : Nat} (i : Nat) (hj : j < xs.length) (hs : 0 < xs.sum) (hw : 0 < w) : sh (poured xs s w j) i = ((s : Int) : Rat) / ((w : Int) : Rat) * sh xs i + ups s w i j := by
  unfold sh ups
  rw [poured_at i hj, poured_sum hj]
  have h1 := rne hs
  have h2 := rne hw
  by_cases e : i = j
  · rw [if_pos e, if_pos e]
    simp only [Rat.intCast_add, Rat.intCast_mul, Rat.intCast_sub]
    grind
  · rw [if_neg e, if_neg e]
    simp only [Int.add_zero, Rat.intCast_mul]
    grind
theorem sh_step {xs : List Int} {m B : Nat} {s w : Int} {j : Nat} (h : Ct m B xs) (hm : m ≤ 8) (hj : j < m) (s1 : 1 ≤ s) (sw : s < w) (w1 : w ≤ 100) (i : Nat) : sh (stepC xs s w j) i = ((s : Int) : Rat) / ((w : Int) : Rat) * sh xs i + ups s w i j := by
  have hjl : j < xs.length := by rw [h.len]; exact hj
  unfold stepC
  rw [sh_plain (fun x hx => (poured_bd h.bd h.len hm hj s1 sw w1 x hx).1) (by rw [poured_sum hjl]; exact Int.mul_pos (by omega) h.pos)]
  exact sh_poured i hjl h.pos (by omega)
/-- what a row makes of a share: its part that stays, and what is added -/
def rA : List ((Int × Int) × Nat) → Rat
  | [] => 1
  | q :: qs => rA qs * (((q.1.1 : Int) : Rat) / ((q.1.2 : Int) : Rat))
def rE (i : Nat) : List ((Int × Int) × Nat) → Rat
  | [] => 0
  | q :: qs => rA qs * ups q.1.1 q.1.2 i q.2 + rE i qs
theorem sh_last {m : Nat} (hm : m ≤ 8) (i : Nat) : ∀ (qs : List ((Int × Int) × Nat)) (c : List Int) (B : Nat), (∀ q ∈ qs, Kp q.1 ∧ q.2 < m) → Ct m B c → sh (lastBy c qs) i = rA qs * sh c i + rE i qs
  | [], c, B, _, h => by simp only [lastBy, rA, rE]; grind
  | q :: qs, c, B, hi, h => by
    obtain ⟨⟨k1, k2, k3, k4⟩, hq⟩ := hi q List.mem_cons_self
    rw [lastBy, sh_last hm i qs _ (B + 11) (fun j hj => hi j (List.mem_cons_of_mem _ hj)) (step_ct h hm hq k1 k2 k3), sh_step h hm hq k1 k2 k3, rA, rE]
    grind
/-- weighted sums -/
def wS (i : Nat) : List (List Int × Int) → Rat
  | [] => 0
  | q :: qs => ((q.2 : Int) : Rat) * sh q.1 i + wS i qs
def wT : List (List Int × Int) → Rat
  | [] => 0
  | q :: qs => ((q.2 : Int) : Rat) + wT qs
/-! lists told in cells, each with its place put behind -/
theorem forS_invV {lv : List (Nat × List D)} {tg : Tn} {b : Slots → Store → Res Fl} (I : Nat → Slots → Store → Prop) (hv : ∀ i ρ μ, I i ρ μ → lvOk lv μ) : ∀ (ds : List D) (i : Nat) (ρ : Slots) (μ : Store), I i ρ μ →
    (∀ (j : Nat) (d : D) (ρ : Slots) (μ : Store), ds[j]? = some d → I (i + j) ρ μ → ∃ ρ1 ρ2 μ2, bindT tg d ρ = some ρ1 ∧ b ρ1 μ = .ok (.nx ρ2) μ2 ∧ I (i + j + 1) ρ2 μ2) →
    ∃ ρ2 μ2, forS tg b lv ds ρ μ = .ok (.nx ρ2) μ2 ∧ I (i + ds.length) ρ2 μ2
  | [], i, ρ, μ, h, _ => ⟨ρ, μ, by simp [forS, hv i ρ μ h], h⟩
  | d :: ds, i, ρ, μ, h, k => by
    obtain ⟨ρ1, ρ2, μ2, h1, h2, h3⟩ := k 0 d ρ μ rfl h
    obtain ⟨ρ3, μ3, h4, h5⟩ := forS_invV I hv ds (i + 1) ρ2 μ2 h3 fun j d' ρ μ hj hi => by
      have := k (j + 1) d' ρ μ (by simpa using hj) (by rw [show i + (j + 1) = i + 1 + j by omega]; exact hi)
      rwa [show i + (j + 1) + 1 = i + 1 + j + 1 by omega] at this
    exact ⟨ρ3, μ3, by simp only [forS, if_pos (hv i ρ μ h), h1, h2, h4], by rw [List.length_cons, show i + (ds.length + 1) = i + 1 + ds.length by omega]; exact h5⟩
/-- the cells of all contents, the first k with their place behind -/
def cK (cs : List (List Int)) (k : Nat) : Store := cs.zipIdx.map fun q => Cell.lst (if q.2 < k then dI q.1 ++ [.int (q.2 : Int)] else dI q.1)
theorem cK_len (cs : List (List Int)) (k : Nat) : (cK cs k).length = cs.length := by simp [cK]
def stP (pre : Store) (cs : List (List Int)) (k : Nat) : Store := pre ++ (cK cs k ++ [.lst (ptsF pre.length cs.length)])
theorem stP_told (pre : Store) (cs : List (List Int)) (k : Nat) : (stP pre cs k)[pre.length + cs.length]? = some (.lst (ptsF pre.length cs.length)) := by
  unfold stP
  rw [List.getElem?_append_right (by omega), List.getElem?_append_right (by rw [cK_len]; omega), cK_len, show pre.length + cs.length - pre.length - cs.length = 0 by omega]; rfl
theorem stP_get {pre : Store} {cs : List (List Int)} {k i : Nat} {c : List Int} (h : cs[i]? = some c) : (stP pre cs k)[pre.length + i]? = some (.lst (if i < k then dI c ++ [.int (i : Int)] else dI c)) := by
  have hi := (List.getElem?_eq_some_iff.mp h).1
  unfold stP
  rw [List.getElem?_append_right (by omega), List.getElem?_append_left (by rw [cK_len]; omega), show pre.length + i - pre.length = i by omega]
  simp [cK, h]
theorem stP_set {pre : Store} {cs : List (List Int)} {k : Nat} {c : List Int} (h : cs[k]? = some c) : (stP pre cs k).set (pre.length + k) (.lst (dI c ++ [.int (k : Int)])) = stP pre cs (k + 1) := by
  have hk := (List.getElem?_eq_some_iff.mp h).1
  have key : (cK cs k).set k (.lst (dI c ++ [.int (k : Int)])) = cK cs (k + 1) := by
    apply List.ext_getElem?
    intro i
    rw [List.getElem?_set]
    unfold cK
    by_cases e : k = i
    · subst e
      rw [if_pos rfl, if_pos (by simpa using hk)]
      simp [h]
    · rw [if_neg e]
      simp only [List.getElem?_map, List.getElem?_zipIdx, Nat.zero_add]
      cases cs[i]? with
      | none => rfl
      | some x =>
        simp only [Option.map_some]
        by_cases h3 : i < k
        · rw [if_pos h3, if_pos (by omega)]
        · rw [if_neg h3, if_neg (by omega)]
  unfold stP
  rw [List.set_append_right _ _ (by omega), show pre.length + k - pre.length = k by omega, List.set_append_left _ _ (by rw [cK_len]; exact hk), key]
theorem stP0 (pre : Store) (cs : List (List Int)) : stP pre cs 0 = pre ++ ((cs.map fun c => Cell.lst (dI c)) ++ [.lst (ptsF pre.length cs.length)]) := by
  unfold stP cK
  congr 2
  simp only [Nat.not_lt_zero, if_false]
  apply List.ext_getElem
  · simp
  · intro i h1 h2
    simp
theorem lv_told (pre : Store) (cs : List (List Int)) (k : Nat) : lvOk [(pre.length + cs.length, ptsF pre.length cs.length)] (stP pre cs k) := by
  intro p hp
  rw [List.mem_singleton] at hp; subst hp
  exact stP_told pre cs k
theorem enum_pts : ∀ (n k s : Nat) (i : Nat), i < n → (enumL s (ptsF k n))[i]? = some (.tup [.int ((s + i : Nat) : Int), .ptr (k + i)])
  | 0, k, s, i, h => by omega
  | n + 1, k, s, 0, h => by simp [ptsF, List.range'_succ, enumL]
  | n + 1, k, s, i + 1, h => by
    have := enum_pts n (k + 1) (s + 1) i (by omega)
    have e : ptsF k (n + 1) = .ptr k :: ptsF (k + 1) n := by simp [ptsF, List.range'_succ]
    rw [e, enumL, List.getElem?_cons_succ, this, show s + 1 + i = s + (i + 1) by omega, show k + 1 + i = k + (i + 1) by omega]
theorem enum_len : ∀ (ds : List D) (s : Nat), (enumL s ds).length = ds.length
  | [], _ => rfl
  | d :: ds, s => by simp [enumL, enum_len ds]
theorem ptsF_map (k n : Nat) : ptsF k n = (List.range n).map fun i => D.ptr (k + i) := by
  apply List.ext_getElem?
  intro i
  by_cases h : i < n
  · rw [ptsF_get h]; simp [h]
  · rw [List.getElem?_eq_none (by simp [ptsF]; omega), List.getElem?_eq_none (by simp; omega)]
/-- told once more from cells -/
theorem told_dLn (cs : List (List Int)) : (List.range cs.length).map (fun i => D.new (dI (cs[i]?.getD []))) = cs.map dLn := by
  apply List.ext_getElem
  · simp
  · intro i h1 h2
    have hi : i < cs.length := by simpa using h1
    simp [dLn, List.getElem?_eq_getElem hi]
/-- the row without its last top-up -/
theorem along_concat : ∀ (qs : List ((Int × Int) × Nat)) (q : (Int × Int) × Nat) (c : List Int), alongBy c (qs ++ [q]) = alongBy c qs ++ [lastBy c (qs ++ [q])]
  | [], q, c => rfl
  | x :: qs, q, c => by
    have := along_concat qs q (stepC c x.1.1 x.1.2 x.2)
    simp only [List.cons_append, alongBy, lastBy, this]
theorem lastBy_concat : ∀ (qs : List ((Int × Int) × Nat)) (q : (Int × Int) × Nat) (c : List Int), lastBy c (qs ++ [q]) = stepC (lastBy c qs) q.1.1 q.1.2 q.2
  | [], q, c => rfl
  | x :: qs, q, c => by
    have := lastBy_concat qs q (stepC c x.1.1 x.1.2 x.2)
    simp only [List.cons_append, lastBy, this]
theorem along_dropLast (c : List Int) (qs : List ((Int × Int) × Nat)) (h : qs ≠ []) : (alongBy c qs).dropLast = alongBy c qs.dropLast := by
  have e := List.dropLast_concat_getLast h
  rw [← e, along_concat, List.dropLast_concat, List.dropLast_concat]
theorem zip_short (p : Int × Int) : ∀ (is : List Nat) (n : Nat), n < is.length → (List.replicate n p).zip is = (byOne p is).take n
  | [], n, h => by simp at h
  | i :: is, 0, h => by simp
  | i :: is, n + 1, h => by
    have := zip_short p is n (by simpa using h)
    rw [byOne_cons, List.replicate_succ, List.zip_cons_cons, this, List.take_succ_cons]
/-! powers; limits of rows -/
theorem pow_bd {b : Int} (h0 : 0 ≤ b) (h1 : b ≤ 100) : ∀ n : Nat, 0 ≤ b ^ n ∧ b ^ n ≤ 2 ^ (7 * n)
  | 0 => by simp
  | n + 1 => by
    obtain ⟨i0, i1⟩ := pow_bd h0 h1 n
    refine ⟨Int.pow_nonneg h0, ?_⟩
    rw [Int.pow_succ, Nat.mul_add, Int.pow_add]
    exact Int.mul_le_mul i1 (by omega) h0 (Int.le_of_lt (Int.pow_pos (by omega)))
theorem pow_lt' {b : Int} (h0 : 0 ≤ b) (h1 : b ≤ 100) (n : Nat) : (b ^ n).natAbs < 2 ^ (7 * n + 1) := by
  obtain ⟨i0, i1⟩ := pow_bd h0 h1 n
  refine natAbs_lt i0 ?_
  rw [Int.pow_succ]
  have : (0 : Int) < 2 ^ (7 * n) := Int.pow_pos (by omega)
  omega
/-- the sum of the powers of the places of a liquid, from place k on -/
def V (s w : Int) (i : Nat) : Nat → List Nat → Int
  | _, [] => 0
  | k, j :: js => (if i = j then s ^ js.length * w ^ k else 0) + V s w i (k + 1) js
def limL (s w : Int) (n : Nat) : List Int → Nat → List Nat → List Int
  | F, _, [] => F
  | F, k, j :: js => limL s w n (F.set j (F[j]?.getD 0 + s ^ js.length * w ^ k)) (k + 1) js
theorem limL_len (s w : Int) (n : Nat) : ∀ (js : List Nat) (F : List Int) (k : Nat), (limL s w n F k js).length = F.length
  | [], F, k => rfl
  | j :: js, F, k => by rw [limL, limL_len s w n js]; simp
theorem limL_at (s w : Int) (n i : Nat) : ∀ (js : List Nat) (F : List Int) (k : Nat), (∀ j ∈ js, j < F.length) → (limL s w n F k js)[i]?.getD 0 = F[i]?.getD 0 + V s w i k js
  | [], F, k, _ => by simp [limL, V]
  | j :: js, F, k, h => by
    have hj := h j List.mem_cons_self
    rw [limL, limL_at s w n i js _ _ (fun x hx => by simpa using h x (List.mem_cons_of_mem _ hx)), V, List.getElem?_set]
    by_cases e : j = i
    · subst e
      rw [if_pos rfl, if_pos hj, if_pos rfl, Option.getD_some]; omega
    · rw [if_neg e, if_neg (Ne.symm e)]; omega
def limV (p : Int × Int) (m : Nat) (is : List Nat) : List Int := (List.range m).map fun i => V p.1 p.2 i 0 is
theorem ext_getD {xs ys : List Int} (hl : xs.length = ys.length) (h : ∀ i, i < xs.length → xs[i]?.getD 0 = ys[i]?.getD 0) : xs = ys := by
  apply List.ext_getElem hl
  intro i h1 h2
  have := h i h1
  rw [List.getElem?_eq_getElem h1, List.getElem?_eq_getElem h2] at this
  simpa using this
theorem limV_at (p : Int × Int) {m i : Nat} (is : List Nat) (hi : i < m) : (limV p m is)[i]?.getD 0 = V p.1 p.2 i 0 is := by
  simp [limV, hi]
theorem limL_eq {p : Int × Int} {m : Nat} {is : List Nat} (h : ∀ i ∈ is, i < m) (n : Nat) : limL p.1 p.2 n (List.replicate m 0) 0 is = limV p m is := by
  refine ext_getD (by rw [limL_len]; simp [limV]) fun i hi => ?_
  rw [limL_len] at hi
  have hi : i < m := by simpa using hi
  rw [limL_at _ _ _ _ _ _ _ (fun j hj => by simpa using h j hj), limV_at p is hi]
  simp [hi]
theorem V_bd {s w : Int} (s1 : 1 ≤ s) (sw : s < w) (w1 : w ≤ 100) (i : Nat) : ∀ (js : List Nat) (k : Nat), 0 ≤ V s w i k js ∧ V s w i k js ≤ js.length * 2 ^ (7 * (k + js.length))
  | [], k => by simp [V]
  | j :: js, k => by
    obtain ⟨h0, h1⟩ := V_bd s1 sw w1 i js (k + 1)
    obtain ⟨a0, a1⟩ := pow_bd (b := s) (by omega) (by omega) js.length
    obtain ⟨b0, b1⟩ := pow_bd (b := w) (by omega) (by omega) k
    have c0 := Int.mul_nonneg a0 b0
    have c1 : s ^ js.length * w ^ k ≤ 2 ^ (7 * (k + (js.length + 1))) := by
      have := Int.mul_le_mul a1 b1 b0 (Int.le_of_lt (Int.pow_pos (by omega)))
      rw [← Int.pow_add] at this
      exact Int.le_trans this (pow_le (by omega))
    have e : 7 * (k + 1 + js.length) = 7 * (k + (js.length + 1)) := by omega
    rw [e] at h1
    have p : (0 : Int) < 2 ^ (7 * (k + (js.length + 1))) := Int.pow_pos (by omega)
    rw [V, List.length_cons]
    have e2 : ((js.length + 1 : Nat) : Int) * 2 ^ (7 * (k + (js.length + 1))) = js.length * 2 ^ (7 * (k + (js.length + 1))) + 2 ^ (7 * (k + (js.length + 1))) := by rw [Int.natCast_add, Int.add_mul]; simp
    rw [e2]
    split <;> constructor <;> omega
/-- all sums together -/
def T (s w : Int) : Nat → List Nat → Int
  | _, [] => 0
  | k, _ :: js => s ^ js.length * w ^ k + T s w (k + 1) js
theorem range_sum_add (f g : Nat → Int) (m : Nat) : ((List.range m).map fun i => f i + g i).sum = ((List.range m).map f).sum + ((List.range m).map g).sum := by
  induction m with
  | zero => rfl
  | succ m ih => simp only [List.range_succ, List.map_append, List.sum_append, ih, List.map_cons, List.map_nil, List.sum_cons, List.sum_nil]; omega
theorem range_sum_one (x : Int) {j : Nat} : ∀ m : Nat, ((List.range m).map fun i => if i = j then x else 0).sum = if j < m then x else 0
  | 0 => by simp
  | m + 1 => by
    rw [List.range_succ, List.map_append, List.sum_append, range_sum_one x m]
    by_cases e : j < m
    · have : ¬ m = j := by omega
      simp [e, this, show j < m + 1 by omega]
    · by_cases e2 : m = j
      · subst e2; simp
      · simp [e, e2, show ¬ j < m + 1 by omega]
theorem V_sum (s w : Int) {m : Nat} : ∀ (js : List Nat) (k : Nat), (∀ j ∈ js, j < m) → ((List.range m).map fun i => V s w i k js).sum = T s w k js
  | [], k, _ => by
    simp only [V, T]
    induction m with
    | zero => rfl
    | succ m ih =>
      have ih := ih (by simp)
      rw [List.range_succ, List.map_append, List.sum_append, ih]; rfl
  | j :: js, k, h => by
    simp only [V, T]
    rw [range_sum_add, range_sum_one, if_pos (h j List.mem_cons_self), V_sum s w js (k + 1) fun x hx => h x (List.mem_cons_of_mem _ hx)]
theorem T_geo (s w : Int) : ∀ (js : List Nat) (k : Nat), (w - s) * T s w k js = w ^ k * (w ^ js.length - s ^ js.length)
  | [], k => by simp [T]
  | j :: js, k => by
    have ih := T_geo s w js (k + 1)
    rw [T, List.length_cons, Int.mul_add, ih, Int.pow_succ, Int.pow_succ, Int.pow_succ]
    generalize s ^ js.length = a
    generalize w ^ js.length = b
    generalize w ^ k = c
    grind
theorem limV_sum (p : Int × Int) {m : Nat} {is : List Nat} (h : ∀ i ∈ is, i < m) : (limV p m is).sum = T p.1 p.2 0 is := V_sum p.1 p.2 is 0 h
theorem T_pos {s w : Int} (s1 : 1 ≤ s) (sw : s < w) : ∀ (js : List Nat) (k : Nat), 0 ≤ T s w k js ∧ (js ≠ [] → 0 < T s w k js)
  | [], k => by simp [T]
  | j :: js, k => by
    obtain ⟨h0, _⟩ := T_pos s1 sw js (k + 1)
    have : 0 < s ^ js.length * w ^ k := Int.mul_pos (Int.pow_pos (by omega)) (Int.pow_pos (by omega))
    rw [T]
    exact ⟨by omega, fun _ => by omega⟩
theorem limV_bd {p : Int × Int} (hp : Kp p) {m : Nat} {is : List Nat} (hl : is.length ≤ 60) : Bd 430 (limV p m is) := fun x hx => by
  obtain ⟨i, _, rfl⟩ := List.mem_map.mp hx
  obtain ⟨k1, k2, k3, _⟩ := hp
  obtain ⟨h0, h1⟩ := V_bd k1 k2 k3 i is 0
  refine ⟨h0, ?_⟩
  rw [Nat.zero_add] at h1
  have a1 : (is.length : Int) * 2 ^ (7 * is.length) ≤ 60 * 2 ^ 420 := Int.mul_le_mul (by omega) (pow_le (by omega)) (Int.le_of_lt (Int.pow_pos (by omega))) (by omega)
  have a2 : (60 : Int) * 2 ^ 420 < 2 ^ 430 := by decide +kernel
  omega
theorem limV_pos {p : Int × Int} (hp : Kp p) {m : Nat} {is : List Nat} (hi : ∀ i ∈ is, i < m) (h0 : is ≠ []) : 0 < (limV p m is).sum := by
  rw [limV_sum p hi]
  exact (T_pos hp.1 hp.2.1 is 0).2 h0
def limC (p : Int × Int) (m : Nat) (is : List Nat) : List Int := plain (limV p m is)
theorem lim_ct {p : Int × Int} (hp : Kp p) {m : Nat} {is : List Nat} (hi : ∀ i ∈ is, i < m) (h0 : is ≠ []) (hl : is.length ≤ 60) : Ct m 430 (limC p m is) := by
  have := plain_ct (limV_bd hp (m := m) hl) (limV_pos hp hi h0)
  rw [show (limV p m is).length = m by simp [limV]] at this
  exact this
/-! the limit comes back behind the row -/
theorem rA_one (p : Int × Int) (hw : 0 < p.2) : ∀ is : List Nat, rA (byOne p is) * ((p.2 ^ is.length : Int) : Rat) = ((p.1 ^ is.length : Int) : Rat)
  | [] => by simp [byOne, rA]
  | i :: is => by
    have ih := rA_one p hw is
    have h1 := rne hw
    rw [byOne_cons, rA, List.length_cons, Int.pow_succ, Int.pow_succ, Rat.intCast_mul, Rat.intCast_mul]
    grind
theorem V_shift (s w : Int) (i : Nat) : ∀ (js : List Nat) (k : Nat), V s w i (k + 1) js = w * V s w i k js
  | [], k => by simp [V]
  | j :: js, k => by
    rw [V, V, V_shift s w i js (k + 1), Int.mul_add]
    congr 1
    split
    · rw [Int.pow_succ]; grind
    · simp
theorem rE_one (p : Int × Int) (hw : 0 < p.2) (i : Nat) : ∀ is : List Nat, rE i (byOne p is) * ((p.2 ^ is.length : Int) : Rat) = ((p.2 - p.1 : Int) : Rat) * ((V p.1 p.2 i 0 is : Int) : Rat)
  | [] => by simp [byOne, rE, V]
  | j :: is => by
    have ih := rE_one p hw i is
    have ia := rA_one p hw is
    have h1 := rne hw
    rw [byOne_cons, rE, List.length_cons, Int.pow_succ, Rat.intCast_mul, V, V_shift]
    unfold ups
    simp only [Int.pow_zero, Int.mul_one, Rat.intCast_add, Rat.intCast_mul]
    by_cases e : i = j
    · rw [if_pos e, if_pos e]
      grind
    · rw [if_neg e, if_neg e]
      simp only [Rat.intCast_zero]
      grind
theorem lim_back {p : Int × Int} (hp : Kp p) {m : Nat} {is : List Nat} (hm : m ≤ 8) (hi : ∀ i ∈ is, i < m) (h0 : is ≠ []) (hl : is.length ≤ 60) : lastBy (limC p m is) (byOne p is) = limC p m is := by
  have hct := lim_ct hp hi h0 hl
  have hq := byOne_mem hp hi
  have hct2 := lastBy_ct hm (byOne p is) _ _ hq hct
  refine hct2.ext hct fun i him => ?_
  have hw : 0 < p.2 := by have := hp.1; have := hp.2.1; omega
  have pos := limV_pos hp hi h0
  rw [sh_last hm i (byOne p is) _ _ hq hct]
  have e1 : sh (limC p m is) i = sh (limV p m is) i := sh_plain (fun x hx => (limV_bd hp hl x hx).1) pos i
  have e2 : sh (limV p m is) i = ((V p.1 p.2 i 0 is : Int) : Rat) / ((T p.1 p.2 0 is : Int) : Rat) := by
    unfold sh
    rw [limV_at p is him, limV_sum p hi]
  rw [e1, e2]
  have a := rA_one p hw is
  have b := rE_one p hw i is
  have g := congrArg (fun z : Int => (z : Rat)) (T_geo p.1 p.2 is 0)
  simp only [Int.pow_zero, Int.one_mul, Rat.intCast_mul, Rat.intCast_sub] at g
  rw [Rat.intCast_sub] at b
  have hT : ((T p.1 p.2 0 is : Int) : Rat) ≠ 0 := rne ((T_pos hp.1 hp.2.1 is 0).2 h0)
  have hW : ((p.2 ^ is.length : Int) : Rat) ≠ 0 := rne (Int.pow_pos hw)
  generalize ((T p.1 p.2 0 is : Int) : Rat) = t at *
  generalize ((p.2 ^ is.length : Int) : Rat) = W at *
  generalize ((p.1 ^ is.length : Int) : Rat) = S at *
  generalize ((V p.1 p.2 i 0 is : Int) : Rat) = v at *
  generalize rA (byOne p is) = A at *
  generalize rE i (byOne p is) = E at *
  have hA : A = S / W := by grind
  have hE : E = (((p.2 : Int) : Rat) - ((p.1 : Int) : Rat)) * v / W := by grind
  rw [hA, hE]
  grind
/-! the program's limits -/
theorem augG_dI {F : List Int} {j k : Nat} {μ : Store} (hk : μ[k]? = some (.lst (dI F))) (hj : j < F.length) (hs : j ≤ 1000) : augG μ (.ptr k) (.int (j : Int)) = .ok (.int (F[j]?.getD 0)) μ := by
  have h1 : small62 (j : Int) = true := small62_nat (by omega) (by omega)
  have h2 : (dI F)[j]? = some (.int (F[j]?.getD 0)) := by simp [dI, List.getElem?_eq_getElem hj]
  unfold augG
  simp only [cellD, hk, h1, Int.toNat_natCast, h2]
  rw [if_pos (by simp)]
theorem ixN_nat {n j : Nat} (h : j < n) : L2.ixN n (j : Int) = some j := by
  have : (j : Int) < (n : Int) := by omega
  simp only [L2.ixN]
  rw [if_pos (by omega), if_pos this]; rfl
theorem dI_set (F : List Int) (j : Nat) (v : Int) : (dI F).set j (.int v) = dI (F.set j v) := by
  unfold dI
  rw [List.map_set]
/-! mixtures in shares; fractions by their value -/
def dueS (W : Int) (qs : List (List Int × Int)) (i : Nat) : Int := (qs.map fun q => q.2 * (q.1[i]?.getD 0) * (W / q.1.sum)).sum
theorem addT_at : ∀ (t : Int) (f c : List Int) (i : Nat), f.length = c.length → (addT t f c)[i]?.getD 0 = f[i]?.getD 0 + t * (c[i]?.getD 0)
  | t, [], [], i, _ => by simp [addT]
  | t, x :: f, y :: c, 0, h => by simp [addT]
  | t, x :: f, y :: c, i + 1, h => by
    have := addT_at t f c i (by simpa using h)
    simpa [addT] using this
  | t, [], y :: c, i, h => by simp at h
  | t, x :: f, [], i, h => by simp at h
theorem mixL_at {W : Int} {m : Nat} (i : Nat) : ∀ (qs : List (List Int × Int)) (f : List Int), f.length = m → (∀ q ∈ qs, q.1.length = m) → (mixL W f qs)[i]?.getD 0 = f[i]?.getD 0 + dueS W qs i
  | [], f, hf, _ => by simp [mixL, dueS]
  | q :: qs, f, hf, h => by
    have h1 := h q List.mem_cons_self
    rw [mixL, mixL_at i qs _ (addT_length hf h1) fun x hx => h x (List.mem_cons_of_mem _ hx), addT_at _ _ _ _ (by rw [hf, h1])]
    simp only [dueS, List.map_cons, List.sum_cons]
    rw [Int.mul_right_comm q.2 (q.1[i]?.getD 0)]
    omega
theorem dueS_rat {W : Int} (i : Nat) : ∀ qs : List (List Int × Int), (∀ q ∈ qs, q.1.sum ∣ W ∧ 0 < q.1.sum) → ((dueS W qs i : Int) : Rat) = ((W : Int) : Rat) * wS i qs
  | [], _ => by simp [dueS, wS]
  | q :: qs, h => by
    obtain ⟨⟨z, hz⟩, h2⟩ := h q List.mem_cons_self
    have ih := dueS_rat i qs fun x hx => h x (List.mem_cons_of_mem _ hx)
    have e : dueS W (q :: qs) i = q.2 * (q.1[i]?.getD 0) * (W / q.1.sum) + dueS W qs i := by simp [dueS]
    have ez : W / q.1.sum = z := Int.ediv_eq_of_eq_mul_right (by omega) hz
    rw [e, wS, Rat.intCast_add, ih, ez]
    have h3 := rne h2
    have e4 : ((W : Int) : Rat) = ((q.1.sum : Int) : Rat) * ((z : Int) : Rat) := by rw [hz, Rat.intCast_mul]
    unfold sh
    rw [Rat.intCast_mul, Rat.intCast_mul, e4]
    grind
theorem wT_sum : ∀ (cs : List (List Int)) (ws : List Int), ws.length = cs.length → wT (cs.zip ws) = ((ws.sum : Int) : Rat)
  | [], [], _ => by simp [wT]
  | [], w :: ws, h => by simp at h
  | c :: cs, [], h => by simp at h
  | c :: cs, w :: ws, h => by
    rw [List.zip_cons_cons, wT, wT_sum cs ws (by simpa using h), List.sum_cons, Rat.intCast_add]
theorem sh_mix {m B : Nat} {cs : List (List Int)} {ws : List Int} (h : Mx m B cs ws) {i : Nat} (hi : i < m) : sh (plain (mixF m cs ws)) i = wS i (cs.zip ws) / ((ws.sum : Int) : Rat) := by
  rw [sh_plain (fun x hx => (h.bd x hx).1) h.pos]
  have e1 : (mixF m cs ws)[i]?.getD 0 = dueS (wh 1 cs) (cs.zip ws) i := by
    have := mixL_at (W := wh 1 cs) i (cs.zip ws) (List.replicate m 0) (by simp) fun q hq => (h.zip q hq).1.len
    rw [show (List.replicate m (0 : Int))[i]?.getD 0 = 0 by simp [hi], Int.zero_add] at this
    exact this
  unfold sh
  rw [e1, h.sum, dueS_rat i _ fun q hq => ⟨(wh_dvd cs 1).2 _ (h.zip q hq).2.1, (h.zip q hq).1.pos⟩, Rat.intCast_mul]
  have h1 := rne h.wh.1
  have h2 := rne h.ws0
  grind
/-- each content topped up by the row -/
theorem wS_last {m B : Nat} (hm : m ≤ 8) (i : Nat) (qs : List ((Int × Int) × Nat)) (hq : ∀ q ∈ qs, Kp q.1 ∧ q.2 < m) : ∀ (cs : List (List Int)) (ws : List Int), (∀ c ∈ cs, Ct m B c) → wS i ((cs.map fun c => lastBy c qs).zip ws) = rA qs * wS i (cs.zip ws) + rE i qs * wT (cs.zip ws)
  | [], ws, _ => by simp [wS, wT]; grind
  | c :: cs, [], _ => by simp [wS, wT]; grind
  | c :: cs, w :: ws, h => by
    rw [List.map_cons, List.zip_cons_cons, List.zip_cons_cons, wS, wS, wT, wS_last hm i qs hq cs ws fun x hx => h x (List.mem_cons_of_mem _ hx), sh_last hm i qs c B hq (h c List.mem_cons_self)]
    grind
theorem mix_last {m B B' : Nat} {cs : List (List Int)} {ws : List Int} {qs : List ((Int × Int) × Nat)} (h : Mx m B cs ws) (hq : ∀ q ∈ qs, Kp q.1 ∧ q.2 < m) (h' : Mx m B' (cs.map fun c => lastBy c qs) ws) : lastBy (plain (mixF m cs ws)) qs = plain (mixF m (cs.map fun c => lastBy c qs) ws) := by
  have hm := h.m8
  refine (lastBy_ct hm qs _ _ hq h.mixed).ext h'.mixed fun i hi => ?_
  rw [sh_last hm i qs _ _ hq h.mixed, sh_mix h hi, sh_mix h' hi, wS_last hm i qs hq cs ws h.ct, wT_sum cs ws h.wl]
  have h2 := rne h.ws0
  grind
theorem mix_same {m B : Nat} {c : List Int} (h : Ct m B c) (h' : Mx m B [c, c] [1, 2]) : plain (mixF m [c, c] [1, 2]) = c := by
  refine h'.mixed.ext h fun i hi => ?_
  rw [sh_mix h' hi]
  simp only [List.zip_cons_cons, List.zip_nil_right, wS]
  have : (([1, 2] : List Int).sum : Int) = 3 := rfl
  rw [this]
  grind
/-! fractions -/
theorem red_scale {k : Int} (hk : 0 < k) (a b : Int) : red (k * a) (k * b) = red a b := by
  unfold red
  have e : (Int.gcd (k * a) (k * b) : Int) = k * Int.gcd a b := by
    rw [Int.gcd_mul_left, Int.natCast_mul, Int.natAbs_of_nonneg (by omega)]
  rw [e, Int.mul_ediv_mul_of_pos _ _ hk, Int.mul_ediv_mul_of_pos _ _ hk]
theorem red_eq {a b c d : Int} (hb : 0 < b) (hd : 0 < d) (h : a * d = c * b) : red a b = red c d := by
  rw [← red_scale hd a b, ← red_scale hb c d, Int.mul_comm d a, h, Int.mul_comm c b, Int.mul_comm d b]
theorem red_eqR {a b c d : Int} (hb : 0 < b) (hd : 0 < d) (h : ((a : Int) : Rat) / ((b : Int) : Rat) = ((c : Int) : Rat) / ((d : Int) : Rat)) : red a b = red c d := by
  have h1 := rne hb
  have h2 := rne hd
  have e : ((a : Int) : Rat) * ((d : Int) : Rat) = ((c : Int) : Rat) * ((b : Int) : Rat) := by grind
  rw [← Rat.intCast_mul, ← Rat.intCast_mul] at e
  exact red_eq hb hd (by exact_mod_cast e)
theorem red_pos {a b : Int} (hb : 0 < b) : 0 < (red a b).2 ∧ (red a b).1 * b = a * (red a b).2 ∧ (red a b).2 ≤ b ∧ (red a b).1.natAbs ≤ a.natAbs := by
  obtain ⟨g0, g1⟩ := red_gcd (s := a) hb
  obtain ⟨x, hx⟩ := Int.gcd_dvd_left (a := a) (b := b)
  obtain ⟨y, hy⟩ := Int.gcd_dvd_right (a := a) (b := b)
  have e1 : a / (Int.gcd a b : Int) = x := Int.ediv_eq_of_eq_mul_right (by omega) hx
  have e2 : b / (Int.gcd a b : Int) = y := Int.ediv_eq_of_eq_mul_right (by omega) hy
  have y0 : 0 < y := by
    rcases Int.lt_or_le 0 y with h | h
    · exact h
    · have := Int.mul_nonpos_of_nonneg_of_nonpos (show 0 ≤ (Int.gcd a b : Int) by omega) h
      omega
  have yb : y ≤ b := by
    have := Int.mul_le_mul_of_nonneg_right (show (1 : Int) ≤ Int.gcd a b by omega) (show 0 ≤ y by omega)
    omega
  have xa : x.natAbs ≤ a.natAbs := by
    rw [hx, Int.natAbs_mul]
    have : 1 ≤ (Int.gcd a b : Int).natAbs := by omega
    exact Nat.le_mul_of_pos_left _ this
  show 0 < b / (Int.gcd a b : Int) ∧ a / (Int.gcd a b : Int) * b = a * (b / (Int.gcd a b : Int)) ∧ b / (Int.gcd a b : Int) ≤ b ∧ (a / (Int.gcd a b : Int)).natAbs ≤ a.natAbs
  rw [e1, e2]
  refine ⟨y0, ?_, yb, xa⟩
  generalize (Int.gcd a b : Int) = g at *
  rw [hx, hy, Int.mul_comm g x, Int.mul_assoc]
theorem red_rat {a b : Int} (hb : 0 < b) : (((red a b).1 : Int) : Rat) / (((red a b).2 : Int) : Rat) = ((a : Int) : Rat) / ((b : Int) : Rat) := by
  obtain ⟨h0, h1, _⟩ := red_pos (a := a) hb
  have h2 := rne h0
  have h3 := rne hb
  have e := congrArg (fun z : Int => (z : Rat)) h1
  simp only [Rat.intCast_mul] at e
  grind
/-! strengths -/
def dot (c t : List Int) : Int := ((c.zip t).map fun q => q.1 * q.2).sum
theorem dot_cons (x : Int) (c : List Int) (y : Int) (t : List Int) : dot (x :: c) (y :: t) = x * y + dot c t := by simp [dot]
theorem dot_nilr (c : List Int) : dot c [] = 0 := by simp [dot]
theorem dot_nill (t : List Int) : dot [] t = 0 := by simp [dot]
theorem dot_addT : ∀ (k : Int) (f c t : List Int), f.length = c.length → dot (addT k f c) t = dot f t + k * dot c t
  | k, [], [], t, _ => by simp [addT, dot_nill]
  | k, x :: f, y :: c, [], _ => by simp [dot_nilr]
  | k, x :: f, y :: c, z :: t, h => by
    have := dot_addT k f c t (by simpa using h)
    have e : addT k (x :: f) (y :: c) = (x + k * y) :: addT k f c := rfl
    rw [e, dot_cons, dot_cons, dot_cons, this]
    grind
  | k, [], y :: c, t, h => by simp at h
  | k, x :: f, [], t, h => by simp at h
theorem dot_scale (k : Int) : ∀ (c t : List Int), dot (c.map (k * ·)) t = k * dot c t
  | [], t => by simp [dot_nill]
  | x :: c, [] => by simp [dot_nilr]
  | x :: c, y :: t => by
    rw [List.map_cons, dot_cons, dot_cons, dot_scale k c t]
    grind
theorem dot_zero (m : Nat) : ∀ t : List Int, dot (List.replicate m 0) t = 0 := fun t => by
  induction m generalizing t with
  | zero => exact dot_nill t
  | succ m ih =>
    cases t with
    | nil => exact dot_nilr _
    | cons y t => rw [List.replicate_succ, dot_cons, ih]; simp
def dotS (W : Int) (t : List Int) (qs : List (List Int × Int)) : Int := (qs.map fun q => q.2 * (W / q.1.sum) * dot q.1 t).sum
theorem dot_mixL {W : Int} {m : Nat} (t : List Int) : ∀ (qs : List (List Int × Int)) (f : List Int), f.length = m → (∀ q ∈ qs, q.1.length = m) → dot (mixL W f qs) t = dot f t + dotS W t qs
  | [], f, hf, _ => by simp [mixL, dotS]
  | q :: qs, f, hf, h => by
    have h1 := h q List.mem_cons_self
    rw [mixL, dot_mixL t qs _ (addT_length hf h1) fun x hx => h x (List.mem_cons_of_mem _ hx), dot_addT _ _ _ _ (by rw [hf, h1])]
    simp only [dotS, List.map_cons, List.sum_cons]
    omega
/-- the strength -/
def stR (t c : List Int) : Rat := ((dot c t : Int) : Rat) / ((c.sum : Int) : Rat)
def dS (t : List Int) : List (List Int × Int) → Rat
  | [] => 0
  | q :: qs => ((q.2 : Int) : Rat) * stR t q.1 + dS t qs
theorem dotS_rat {W : Int} (t : List Int) : ∀ qs : List (List Int × Int), (∀ q ∈ qs, q.1.sum ∣ W ∧ 0 < q.1.sum) → ((dotS W t qs : Int) : Rat) = ((W : Int) : Rat) * dS t qs
  | [], _ => by simp [dotS, dS]
  | q :: qs, h => by
    obtain ⟨⟨z, hz⟩, h2⟩ := h q List.mem_cons_self
    have ih := dotS_rat t qs fun x hx => h x (List.mem_cons_of_mem _ hx)
    have e : dotS W t (q :: qs) = q.2 * (W / q.1.sum) * dot q.1 t + dotS W t qs := by simp [dotS]
    have ez : W / q.1.sum = z := Int.ediv_eq_of_eq_mul_right (by omega) hz
    rw [e, dS, Rat.intCast_add, ih, ez]
    have h3 := rne h2
    have e4 : ((W : Int) : Rat) = ((q.1.sum : Int) : Rat) * ((z : Int) : Rat) := by rw [hz, Rat.intCast_mul]
    unfold stR
    rw [Rat.intCast_mul, Rat.intCast_mul, e4]
    grind
theorem stR_plain {xs : List Int} (t : List Int) (h : ∀ x ∈ xs, 0 ≤ x) (hs : 0 < xs.sum) : stR t (plain xs) = stR t xs := by
  obtain ⟨p, g0⟩ := plain_sum_pos h hs
  have e1 := dot_scale (gl 0 xs) (plain xs) t
  have e2 := sum_mul (gl 0 xs) (plain xs)
  rw [plain_mul h] at e1 e2
  unfold stR
  rw [e1, e2, Rat.intCast_mul, Rat.intCast_mul]
  have h1 := rne g0
  have h2 := rne p
  grind
theorem stR_mix {m B : Nat} {cs : List (List Int)} {ws : List Int} (h : Mx m B cs ws) (t : List Int) : stR t (plain (mixF m cs ws)) = dS t (cs.zip ws) / ((ws.sum : Int) : Rat) := by
  rw [stR_plain t (fun x hx => (h.bd x hx).1) h.pos]
  have e1 : dot (mixF m cs ws) t = dotS (wh 1 cs) t (cs.zip ws) := by
    have := dot_mixL (W := wh 1 cs) t (cs.zip ws) (List.replicate m 0) (by simp) fun q hq => (h.zip q hq).1.len
    rw [dot_zero, Int.zero_add] at this
    exact this
  unfold stR
  rw [e1, h.sum, dotS_rat t _ fun q hq => ⟨(wh_dvd cs 1).2 _ (h.zip q hq).2.1, (h.zip q hq).1.pos⟩, Rat.intCast_mul]
  have h1 := rne h.wh.1
  have h2 := rne h.ws0
  grind
theorem dot_bd {B K : Nat} : ∀ (c t : List Int), Bd B c → (∀ x ∈ t, x.natAbs < 2 ^ K) → (dot c t).natAbs ≤ c.length * 2 ^ (B + K)
  | [], t, _, _ => by simp [dot_nill]
  | x :: c, [], _, _ => by simp [dot_nilr]
  | x :: c, y :: t, h, ht => by
    have ih := dot_bd c t (fun z hz => h z (List.mem_cons_of_mem _ hz)) fun z hz => ht z (List.mem_cons_of_mem _ hz)
    have hx := h x List.mem_cons_self
    have hy := ht y List.mem_cons_self
    rw [dot_cons, List.length_cons, Nat.add_mul, Nat.one_mul]
    have h1 : (x * y).natAbs ≤ 2 ^ (B + K) := by
      rw [Int.natAbs_mul, Nat.pow_add]
      exact Nat.mul_le_mul (Nat.le_of_lt (natAbs_lt hx.1 hx.2)) (Nat.le_of_lt hy)
    have h2 := Int.natAbs_add_le (x * y) (dot c t)
    omega
/-! words and their roots -/
def rep (p : List Nat) (k : Nat) : List Nat := (List.replicate k p).flatten
theorem rep_succ (p : List Nat) (k : Nat) : rep p (k + 1) = p ++ rep p k := by simp [rep, List.replicate_succ]
theorem rep_len (p : List Nat) : ∀ k : Nat, (rep p k).length = p.length * k
  | 0 => by simp [rep]
  | k + 1 => by rw [rep_succ, List.length_append, rep_len p k, Nat.mul_succ]; omega
theorem rep_get (p : List Nat) (hp : 0 < p.length) : ∀ (k i : Nat), i < p.length * k → (rep p k)[i]? = p[i % p.length]?
  | 0, i, h => by simp at h
  | k + 1, i, h => by
    rw [rep_succ]
    by_cases hi : i < p.length
    · rw [List.getElem?_append_left hi, Nat.mod_eq_of_lt hi]
    · rw [List.getElem?_append_right (by omega), rep_get p hp k (i - p.length) (by rw [Nat.mul_succ] at h; omega)]
      congr 1
      rw [← Nat.mod_eq_sub_mod (by omega)]
/-- the word gone round for ever -/
def uu (r : List Nat) (i : Nat) : Nat := r[i % r.length]?.getD 0
def isRoot (r : List Nat) (l : Nat) : Bool := decide (r.length % l = 0) && decide (rep (r.take l) (r.length / l) = r)
def Per (u : Nat → Nat) (q : Nat) : Prop := ∀ i, u (i + q) = u i
theorem Per.mul {u : Nat → Nat} {q : Nat} (h : Per u q) : ∀ (k i : Nat), u (i + q * k) = u i
  | 0, i => by simp
  | k + 1, i => by rw [Nat.mul_succ, ← Nat.add_assoc, h, h.mul k i]
theorem Per.mod {u : Nat → Nat} {q : Nat} (h : Per u q) (i : Nat) : u (i % q) = u i := by
  have := h.mul (i / q) (i % q)
  rw [Nat.mod_add_div] at this
  exact this.symm
theorem Per.gcd {u : Nat → Nat} (p q : Nat) : Per u p → Per u q → Per u (Nat.gcd p q) := by
  induction p, q using Nat.gcd.induction with
  | H0 n => intro _ h; rw [Nat.gcd_zero_left]; exact h
  | H1 m n hm ih =>
    intro h1 h2
    rw [Nat.gcd_rec]
    refine ih (fun i => ?_) h1
    have := h1.mul (n / m) (i + n % m)
    rw [Nat.add_assoc, Nat.mod_add_div, h2] at this
    exact this.symm
theorem uu_per (r : List Nat) : Per (uu r) r.length := fun i => by unfold uu; rw [Nat.add_mod_right]
theorem uu_lt {r : List Nat} {i : Nat} (h : i < r.length) : uu r i = r[i] := by
  unfold uu
  rw [Nat.mod_eq_of_lt h, List.getElem?_eq_getElem h]; rfl
theorem root_iff {r : List Nat} {l : Nat} (hr : 0 < r.length) (hl : 0 < l) (hle : l ≤ r.length) : isRoot r l = true ↔ l ∣ r.length ∧ Per (uu r) l := by
  have htl : (r.take l).length = l := by rw [List.length_take]; omega
  unfold isRoot
  rw [Bool.and_eq_true]
  constructor
  · rintro ⟨h1, h2⟩
    have h1 := of_decide_eq_true h1
    have h2 := of_decide_eq_true h2
    have hd := Nat.dvd_of_mod_eq_zero h1
    refine ⟨hd, ?_⟩
    have key : ∀ i, uu r i = (r.take l)[i % l]?.getD 0 := fun i => by
      have hi : i % r.length < r.length := Nat.mod_lt _ hr
      have := rep_get (r.take l) (by omega) (r.length / l) (i % r.length) (by rw [htl, Nat.mul_div_cancel' hd]; exact hi)
      rw [h2, htl, Nat.mod_mod_of_dvd _ hd] at this
      unfold uu
      rw [this]
    intro i
    rw [key, key, Nat.add_mod_right]
  · rintro ⟨hd, hp⟩
    refine ⟨decide_eq_true (Nat.mod_eq_zero_of_dvd hd), decide_eq_true ?_⟩
    apply List.ext_getElem?
    intro i
    by_cases hi : i < r.length
    · rw [rep_get _ (by omega) _ _ (by rw [htl, Nat.mul_div_cancel' hd]; exact hi), htl]
      have hm : i % l < l := Nat.mod_lt _ hl
      rw [List.getElem?_take, if_pos hm, List.getElem?_eq_getElem hi, List.getElem?_eq_getElem (by omega)]
      have := hp.mod i
      rw [uu_lt hi, uu_lt (by omega)] at this
      rw [this]
    · rw [List.getElem?_eq_none (by rw [rep_len, htl, Nat.mul_div_cancel' hd]; omega), List.getElem?_eq_none (by omega)]
def rootL (r : List Nat) : Nat → Nat → List Nat
  | _, 0 => r
  | s, c + 1 => if isRoot r s = true then r.take s else rootL r (s + 1) c
def root (r : List Nat) : List Nat := rootL r 1 r.length
theorem root_self {r : List Nat} (hr : 0 < r.length) : isRoot r r.length = true := (root_iff hr hr (Nat.le_refl _)).mpr ⟨Nat.dvd_refl _, uu_per r⟩
theorem rootL_spec {r : List Nat} (hr : 0 < r.length) : ∀ (c s : Nat), 1 ≤ s → s + c = r.length + 1 → 1 ≤ c → ∃ l, rootL r s c = r.take l ∧ s ≤ l ∧ l ≤ r.length ∧ isRoot r l = true ∧ ∀ k, s ≤ k → k < l → isRoot r k = false
  | 0, s, _, _, h => by omega
  | c + 1, s, h1, h2, _ => by
    rw [rootL]
    by_cases e : isRoot r s = true
    · rw [if_pos e]
      exact ⟨s, rfl, Nat.le_refl _, by omega, e, fun k a b => by omega⟩
    · rw [if_neg e]
      have hc : 1 ≤ c := by
        rcases Nat.eq_zero_or_pos c with z | z
        · exfalso
          have : s = r.length := by omega
          rw [this] at e
          exact e (root_self hr)
        · exact z
      obtain ⟨l, a1, a2, a3, a4, a5⟩ := rootL_spec hr c (s + 1) (by omega) (by omega) hc
      refine ⟨l, a1, by omega, a3, a4, fun k b1 b2 => ?_⟩
      by_cases hk : k = s
      · subst hk; simpa using e
      · exact a5 k (by omega) b2
theorem root_spec {r : List Nat} (hr : 0 < r.length) : ∃ l, root r = r.take l ∧ 1 ≤ l ∧ l ≤ r.length ∧ l ∣ r.length ∧ Per (uu r) l ∧ rep (root r) (r.length / l) = r ∧ ∀ k, 1 ≤ k → k ≤ r.length → k ∣ r.length → Per (uu r) k → l ≤ k := by
  obtain ⟨l, a1, a2, a3, a4, a5⟩ := rootL_spec hr r.length 1 (Nat.le_refl _) (by omega) hr
  obtain ⟨b1, b2⟩ := (root_iff hr a2 a3).mp a4
  refine ⟨l, a1, a2, a3, b1, b2, ?_, fun k k1 k2 k3 k4 => ?_⟩
  · show rep (rootL r 1 r.length) _ = r
    rw [a1]
    unfold isRoot at a4
    rw [Bool.and_eq_true] at a4
    exact of_decide_eq_true a4.2
  · rcases Nat.lt_or_ge k l with z | z
    · have := a5 k k1 z
      rw [(root_iff hr k1 k2).mpr ⟨k3, k4⟩] at this
      cases this
    · exact z
theorem root_eq {r s : List Nat} (hr : 0 < r.length) (hs : 0 < s.length) (h : uu r = uu s) : root r = root s := by
  obtain ⟨l, a1, a2, a3, a4, a5, _, a7⟩ := root_spec hr
  obtain ⟨k, b1, b2, b3, b4, b5, _, b7⟩ := root_spec hs
  rw [← h] at b5 b7
  have hg := Per.gcd l k a5 b5
  have g1 : 1 ≤ Nat.gcd l k := Nat.gcd_pos_of_pos_left _ (by omega)
  have gl : Nat.gcd l k ≤ l := Nat.gcd_le_left _ (by omega)
  have gk : Nat.gcd l k ≤ k := Nat.gcd_le_right _ (by omega)
  have c1 := a7 _ g1 (by omega) (Nat.dvd_trans (Nat.gcd_dvd_left l k) a4) hg
  have c2 := b7 _ g1 (by omega) (Nat.dvd_trans (Nat.gcd_dvd_right l k) b4) hg
  have e : l = k := by omega
  subst e
  rw [a1, b1]
  apply List.ext_getElem?
  intro i
  by_cases hi : i < l
  · rw [List.getElem?_take, if_pos hi, List.getElem?_take, if_pos hi, List.getElem?_eq_getElem (by omega), List.getElem?_eq_getElem (by omega), ← uu_lt (by omega), ← uu_lt (by omega), h]
  · rw [List.getElem?_eq_none (by rw [List.length_take]; omega), List.getElem?_eq_none (by rw [List.length_take]; omega)]
theorem rep_uu (r : List Nat) (hr : 0 < r.length) {k : Nat} (hk : 0 < k) : uu (rep r k) = uu r := by
  funext i
  have hN : 0 < r.length * k := Nat.mul_pos hr hk
  have hi : i % (r.length * k) < r.length * k := Nat.mod_lt _ hN
  show (rep r k)[i % (rep r k).length]?.getD 0 = _
  rw [rep_len, rep_get r hr k _ hi, Nat.mod_mul_right_mod]; rfl
theorem V_append (s w : Int) (i : Nat) : ∀ (a b : List Nat) (k : Nat), V s w i k (a ++ b) = s ^ b.length * V s w i k a + V s w i (k + a.length) b
  | [], b, k => by simp [V]
  | j :: a, b, k => by
    rw [List.cons_append, V, V_append s w i a b (k + 1), V, List.length_append, List.length_cons, Int.pow_add, show k + 1 + a.length = k + (a.length + 1) by omega]
    split
    · grind
    · grind
theorem T_append (s w : Int) : ∀ (a b : List Nat) (k : Nat), T s w k (a ++ b) = s ^ b.length * T s w k a + T s w (k + a.length) b
  | [], b, k => by simp [T]
  | j :: a, b, k => by
    rw [List.cons_append, T, T_append s w a b (k + 1), T, List.length_append, List.length_cons, Int.pow_add, show k + 1 + a.length = k + (a.length + 1) by omega]
    grind
theorem V_from (s w : Int) (i : Nat) (b : List Nat) : ∀ k : Nat, V s w i k b = w ^ k * V s w i 0 b
  | 0 => by simp
  | k + 1 => by rw [V_shift, V_from s w i b k, Int.pow_succ]; grind
theorem T_shift (s w : Int) : ∀ (js : List Nat) (k : Nat), T s w (k + 1) js = w * T s w k js
  | [], k => by simp [T]
  | j :: js, k => by
    rw [T, T, T_shift s w js (k + 1), Int.mul_add, Int.pow_succ]
    grind
theorem T_from (s w : Int) (b : List Nat) : ∀ k : Nat, T s w k b = w ^ k * T s w 0 b
  | 0 => by simp
  | k + 1 => by rw [T_shift, T_from s w b k, Int.pow_succ]; grind
theorem V_rep (s w : Int) (i : Nat) (r : List Nat) : ∀ k : Nat, V s w i 0 (rep r k) * T s w 0 r = V s w i 0 r * T s w 0 (rep r k)
  | 0 => by simp [rep, V, T]
  | k + 1 => by
    have ih := V_rep s w i r k
    rw [rep_succ, V_append, T_append, Nat.zero_add, V_from s w i (rep r k) r.length, T_from s w (rep r k) r.length]
    generalize V s w i 0 (rep r k) = a at *
    generalize T s w 0 (rep r k) = b at *
    generalize V s w i 0 r = c at *
    generalize T s w 0 r = d at *
    generalize s ^ (rep r k).length = x
    generalize w ^ r.length = y
    grind
theorem pow_not_dvd {s w : Int} (s1 : 1 ≤ s) (sw : s < w) (g : Int.gcd s w = 1) (n : Nat) : ¬ w ∣ s ^ n := by
  intro h
  have hc : Nat.Coprime s.natAbs w.natAbs := g
  have hc2 : Nat.Coprime (s.natAbs ^ n) w.natAbs := Nat.Coprime.pow_left n hc
  have hd : w.natAbs ∣ s.natAbs ^ n := by
    have := Int.natAbs_dvd_natAbs.mpr h
    rwa [Int.natAbs_pow] at this
  have := Nat.Coprime.eq_one_of_dvd hc2.symm hd
  omega
theorem V_inj {s w : Int} (s1 : 1 ≤ s) (sw : s < w) (g : Int.gcd s w = 1) {m : Nat} : ∀ (a b : List Nat), a.length = b.length → (∀ j ∈ a, j < m) → (∀ j ∈ b, j < m) → (∀ i, i < m → V s w i 0 a = V s w i 0 b) → a = b
  | [], [], _, _, _, _ => rfl
  | [], _ :: _, h, _, _, _ => by simp at h
  | _ :: _, [], h, _, _, _ => by simp at h
  | j :: a, k :: b, hl, ha, hb, h => by
    have hl' : a.length = b.length := by simpa using hl
    have hj := ha j List.mem_cons_self
    have hk := hb k List.mem_cons_self
    have e : j = k := by
      apply Classical.byContradiction
      intro hne
      have := h j hj
      rw [V, V, V_shift, V_shift, if_pos rfl, if_neg hne, Int.pow_zero, Int.mul_one] at this
      refine pow_not_dvd s1 sw g a.length ⟨V s w j 0 b - V s w j 0 a, ?_⟩
      rw [Int.mul_sub]; omega
    subst e
    rw [V_inj s1 sw g a b hl' (fun x hx => ha x (List.mem_cons_of_mem _ hx)) (fun x hx => hb x (List.mem_cons_of_mem _ hx)) fun i hi => ?_]
    have := h i hi
    rw [V, V, V_shift, V_shift, hl'] at this
    have h2 : w * V s w i 0 a = w * V s w i 0 b := by omega
    exact Int.eq_of_mul_eq_mul_left (by omega) h2
theorem sh_lim {p : Int × Int} (hp : Kp p) {m : Nat} {is : List Nat} (hi : ∀ i ∈ is, i < m) (h0 : is ≠ []) (hl : is.length ≤ 60) {i : Nat} (him : i < m) : sh (limC p m is) i = ((V p.1 p.2 i 0 is : Int) : Rat) / ((T p.1 p.2 0 is : Int) : Rat) := by
  have e1 : sh (limC p m is) i = sh (limV p m is) i := sh_plain (fun x hx => (limV_bd hp hl x hx).1) (limV_pos hp hi h0) i
  rw [e1]
  unfold sh
  rw [limV_at p is him, limV_sum p hi]
theorem rep_mem {r : List Nat} {k j : Nat} (h : j ∈ rep r k) : j ∈ r := by
  unfold rep at h
  obtain ⟨l, h1, h2⟩ := List.mem_flatten.mp h
  rw [(List.mem_replicate.mp h1).2] at h2
  exact h2
theorem ne_of_pos {r : List Nat} (h : 0 < r.length) : r ≠ [] := fun e => by rw [e] at h; simp at h
/-- rows of one root have one limit -/
theorem lim_of_root {p : Int × Int} (hp : Kp p) {m : Nat} {a b : List Nat} (ha : ∀ i ∈ a, i < m) (hb : ∀ i ∈ b, i < m) (a0 : 0 < a.length) (b0 : 0 < b.length) (al : a.length ≤ 60) (bl : b.length ≤ 60) (h : root a = root b) : limC p m a = limC p m b := by
  have key : ∀ r : List Nat, (∀ i ∈ r, i < m) → 0 < r.length → r.length ≤ 60 → ∀ i, i < m → sh (limC p m r) i = ((V p.1 p.2 i 0 (root r) : Int) : Rat) / ((T p.1 p.2 0 (root r) : Int) : Rat) := fun r hr r0 rl i him => by
    obtain ⟨l, a1, a2, a3, a4, a5, a6, _⟩ := root_spec r0
    rw [sh_lim hp hr (ne_of_pos r0) rl him]
    have hroot : 0 < (root r).length := by rw [a1, List.length_take]; omega
    have e := V_rep p.1 p.2 i (root r) (r.length / l)
    rw [a6] at e
    have t1 : ((T p.1 p.2 0 r : Int) : Rat) ≠ 0 := rne ((T_pos hp.1 hp.2.1 r 0).2 (ne_of_pos r0))
    have t2 : ((T p.1 p.2 0 (root r) : Int) : Rat) ≠ 0 := rne ((T_pos hp.1 hp.2.1 (root r) 0).2 (ne_of_pos hroot))
    have e2 := congrArg (fun z : Int => (z : Rat)) e
    simp only [Rat.intCast_mul] at e2
    grind
  refine (lim_ct hp ha (ne_of_pos a0) al).ext (lim_ct hp hb (ne_of_pos b0) bl) fun i hi => ?_
  rw [key a ha a0 al i hi, key b hb b0 bl i hi, h]
/-- .. and rows of one limit have one root -/
theorem root_of_lim {p : Int × Int} (hp : Kp p) {m : Nat} {a b : List Nat} (ha : ∀ i ∈ a, i < m) (hb : ∀ i ∈ b, i < m) (a0 : 0 < a.length) (b0 : 0 < b.length) (al : a.length ≤ 60) (bl : b.length ≤ 60) (h : limC p m a = limC p m b) : root a = root b := by
  obtain ⟨k1, k2, k3, k4⟩ := id hp
  have hlen : (rep a b.length).length = (rep b a.length).length := by rw [rep_len, rep_len, Nat.mul_comm]
  have hne : rep a b.length ≠ [] := ne_of_pos (by rw [rep_len]; exact Nat.mul_pos a0 b0)
  have hne2 : rep b a.length ≠ [] := ne_of_pos (by rw [rep_len]; exact Nat.mul_pos b0 a0)
  have e : rep a b.length = rep b a.length := by
    refine V_inj (m := m) k1 k2 k4 _ _ hlen (fun j hj => ha j (rep_mem hj)) (fun j hj => hb j (rep_mem hj)) fun i hi => ?_
    have q : sh (limC p m a) i = sh (limC p m b) i := by rw [h]
    rw [sh_lim hp ha (ne_of_pos a0) al hi, sh_lim hp hb (ne_of_pos b0) bl hi] at q
    have ea := congrArg (fun z : Int => (z : Rat)) (V_rep p.1 p.2 i a b.length)
    have eb := congrArg (fun z : Int => (z : Rat)) (V_rep p.1 p.2 i b a.length)
    have et : T p.1 p.2 0 (rep a b.length) = T p.1 p.2 0 (rep b a.length) := by
      have g1 := T_geo p.1 p.2 (rep a b.length) 0
      have g2 := T_geo p.1 p.2 (rep b a.length) 0
      rw [hlen, ← g2] at g1
      exact Int.eq_of_mul_eq_mul_left (by omega) g1
    rw [et] at ea
    simp only [Rat.intCast_mul] at ea eb
    have t1 : ((T p.1 p.2 0 a : Int) : Rat) ≠ 0 := rne ((T_pos k1 k2 a 0).2 (ne_of_pos a0))
    have t2 : ((T p.1 p.2 0 b : Int) : Rat) ≠ 0 := rne ((T_pos k1 k2 b 0).2 (ne_of_pos b0))
    have fin : ((V p.1 p.2 i 0 (rep a b.length) : Int) : Rat) = ((V p.1 p.2 i 0 (rep b a.length) : Int) : Rat) := by grind
    exact_mod_cast fin
  refine root_eq a0 b0 ?_
  rw [← rep_uu a a0 b0, ← rep_uu b b0 a0, e]
theorem eqvAll_ints : ∀ a b : List Int, PyData.eqvAll (a.map fun x => .int x) (b.map fun x => .int x) = decide (a = b)
  | [], [] => rfl
  | [], _ :: _ => rfl
  | _ :: _, [] => rfl
  | x :: a, y :: b => by
    have ih := eqvAll_ints a b
    simp only [List.map_cons, PyData.eqvAll, PyData.eqv, ih]
    by_cases e : x = y
    · subst e; simp
    · simp [e]
theorem eqD_dI (μ : Store) (a b : List Int) : eqD μ (.lst (dI a)) (.lst (dI b)) = some (decide (a = b)) := by
  refine (eqD_pl (μ := μ) (Pl_ints (fun x : Int => x) a) (Pl_ints (fun x : Int => x) b) (by omega) (by omega)).trans ?_
  simp only [PyData.eqv]
  rw [eqvAll_ints]
theorem dN_dI (is : List Nat) : dN is = dI (is.map fun i : Nat => (i : Int)) := by simp [dN, dI, Function.comp_def]
theorem cast_inj {a b : List Nat} : (a.map (fun i : Nat => (i : Int)) = b.map (fun i : Nat => (i : Int))) ↔ a = b := by
  constructor
  · intro h
    exact List.map_inj_right (f := fun i : Nat => (i : Int)) (fun x y e => Int.ofNat_inj.mp e) |>.mp h
  · intro h; rw [h]
theorem eqD_dN (μ : Store) (a b : List Nat) : eqD μ (.lst (dN a)) (.lst (dN b)) = some (decide (a = b)) := by
  rw [dN_dI, dN_dI, eqD_dI]
  congr 1
  exact decide_eq_decide.mpr cast_inj
theorem eqD_dNn (μ : Store) (a b : List Nat) : eqD μ (.new (dN a)) (.lst (dN b)) = some (decide (a = b)) := eqD_dN μ a b
theorem eqD_dNnn (μ : Store) (a b : List Nat) : eqD μ (.new (dN a)) (.new (dN b)) = some (decide (a = b)) := eqD_dN μ a b
theorem eqD_dIln (μ : Store) (a b : List Int) : eqD μ (.lst (dI a)) (.new (dI b)) = some (decide (a = b)) := eqD_dI μ a b
theorem rep_dN (μ : Store) (t : List Nat) (k : Nat) (h : t.length * k ≤ 16777216) (hk : k ≤ 1000000) : repL μ (.new (dN t)) (k : Int) = .ok (.new (dN (rep t k))) μ := by
  have h : repOk (dN t).length (k : Int) = true := by
    unfold repOk
    rw [Bool.and_eq_true]
    exact ⟨decide_eq_true (by omega), decide_eq_true (by rw [sizeLine_val]; simpa [dN] using h)⟩
  have e : ∀ n : Nat, (List.replicate n (frzL (dN t))).flatten = dN (rep t n) := fun n => by
    induction n with
    | zero => rfl
    | succ n ih => rw [List.replicate_succ, List.flatten_cons, ih, rep_succ, frzL_dN]; simp [dN]
  unfold repL
  rw [asJ_new]
  simp only
  rw [if_pos h, e, Int.toNat_natCast]
theorem cut_dN (r : List Nat) (s : Nat) (h : s ≤ r.length) : cutD (dN r) none (some (s : Int)) = dN (r.take s) := by
  rw [cut_take _ _ (by simpa [dN] using h)]
  simp [dN]
theorem rng12 {n : Nat} (hn : n ≤ 60) {ρ : Slots} {μ : Store} {e : E} (h : (ev e).e ρ μ = .ok (.int ((n : Int) + 1)) μ) : evI (.rng (.cons (.k (.int 1)) (.cons e .nil))) ρ μ = .ok ⟨rangeL 1 1 n, []⟩ μ := by
  have h1 : small62 1 = true := by decide
  have h2 : small62 ((n : Int) + 1) = true := small62_nat (by omega) (by omega)
  have h3 : ((n : Int) + 1 - 1).toNat = n := by omega
  simp [h, rangeD, h1, h2, h3]
/-! the differences of shares, by the integers -/
def absI (x : Int) : Int := if x < 0 then -x else x
theorem absI_mul {k : Int} (hk : 0 ≤ k) (x : Int) : absI (k * x) = k * absI x := by
  unfold absI
  rcases Int.lt_or_le x 0 with h | h
  · rw [if_pos h]
    rcases Int.lt_or_le 0 k with h2 | h2
    · rw [if_pos (Int.mul_neg_of_pos_of_neg h2 h)]; grind
    · have : k = 0 := by omega
      subst this; simp
  · have := Int.mul_nonneg hk h
    rw [if_neg (show ¬ k * x < 0 by omega), if_neg (show ¬ x < 0 by omega)]
theorem absI_nn (x : Int) : 0 ≤ absI x := by unfold absI; split <;> omega
theorem maxL_scale {k : Int} (hk : 0 ≤ k) : ∀ xs : List Int, maxL (xs.map (k * ·)) = k * maxL xs
  | [] => by simp [maxL]
  | [x] => by simp [maxL]
  | x :: y :: xs => by
    have ih := maxL_scale hk (y :: xs)
    show (if k * x ≤ maxL ((y :: xs).map (k * ·)) then maxL ((y :: xs).map (k * ·)) else k * x) = k * (if x ≤ maxL (y :: xs) then maxL (y :: xs) else x)
    rw [ih]
    rcases Int.lt_or_le 0 k with h | h
    · by_cases e : x ≤ maxL (y :: xs)
      · rw [if_pos e, if_pos (Int.mul_le_mul_of_nonneg_left e hk)]
      · rw [if_neg e, if_neg (fun z => e (Int.le_of_mul_le_mul_left z h))]
    · have : k = 0 := by omega
      subst this; simp
theorem maxL_mem : ∀ {xs : List Int}, xs ≠ [] → maxL xs ∈ xs
  | [x], _ => by simp [maxL]
  | x :: y :: xs, _ => by
    have ih := maxL_mem (xs := y :: xs) (by simp)
    show (if x ≤ maxL (y :: xs) then maxL (y :: xs) else x) ∈ _
    split
    · exact List.mem_cons_of_mem _ ih
    · exact List.mem_cons_self
def dif (D C : Int) (q : Int × Int) : Int := q.1 * D - q.2 * C
/-- the greatest difference, over the product of both sums -/
def apart (c d : List Int) : Int := maxL ((c.zip d).map fun q => absI (dif d.sum c.sum q))
theorem apart_nn {c d : List Int} (h : (c.zip d) ≠ []) : 0 ≤ apart c d := by
  have := maxL_mem (xs := (c.zip d).map fun q => absI (dif d.sum c.sum q)) (by simpa using h)
  obtain ⟨q, _, e⟩ := List.mem_map.mp this
  unfold apart
  rw [← e]
  exact absI_nn _
/-- behind a row, no divisor taken out -/
def und (p : Int × Int) (x : List Int) : List Nat → List Int
  | [] => x
  | i :: is => und p (poured x p.1 p.2 i) is
theorem poured_len (x : List Int) (s w : Int) (i : Nat) : (poured x s w i).length = x.length := by simp [poured]
theorem und_len (p : Int × Int) : ∀ (is : List Nat) (x : List Int), (und p x is).length = x.length
  | [], x => rfl
  | i :: is, x => by rw [und, und_len p is, poured_len]
theorem und_sum (p : Int × Int) : ∀ (is : List Nat) (x : List Int), (∀ i ∈ is, i < x.length) → (und p x is).sum = p.2 ^ is.length * x.sum
  | [], x, _ => by simp [und]
  | i :: is, x, h => by
    rw [und, und_sum p is _ (fun j hj => by rw [poured_len]; exact h j (List.mem_cons_of_mem _ hj)), poured_sum (h i List.mem_cons_self), List.length_cons, Int.pow_succ]
    grind
theorem poured_nn {x : List Int} {s w : Int} {i : Nat} (h : ∀ y ∈ x, 0 ≤ y) (s0 : 0 ≤ s) (sw : s ≤ w) : ∀ y ∈ poured x s w i, 0 ≤ y := fun y hy => by
  have hs := sum_nonneg h
  rcases mem_set hy with rfl | hy
  · have h1 : 0 ≤ x[i]?.getD 0 := by
      cases e : x[i]? with
      | none => simp
      | some z => exact h z (List.mem_of_getElem? e)
    have := Int.mul_nonneg s0 h1
    have := Int.mul_nonneg (show 0 ≤ w - s by omega) hs
    omega
  · obtain ⟨z, hz, rfl⟩ := List.mem_map.mp hy
    exact Int.mul_nonneg s0 (h z hz)
theorem und_nn {p : Int × Int} (s0 : 0 ≤ p.1) (sw : p.1 ≤ p.2) : ∀ (is : List Nat) (x : List Int), (∀ y ∈ x, 0 ≤ y) → ∀ y ∈ und p x is, 0 ≤ y
  | [], x, h => h
  | i :: is, x, h => und_nn s0 sw is _ (poured_nn h s0 sw)
theorem und_dif (p : Int × Int) (i : Nat) : ∀ (is : List Nat) (x d : List Int), x.length = d.length → (∀ j ∈ is, j < x.length) →
    (und p x is)[i]?.getD 0 * (und p d is).sum - (und p d is)[i]?.getD 0 * (und p x is).sum = p.1 ^ is.length * p.2 ^ is.length * (x[i]?.getD 0 * d.sum - d[i]?.getD 0 * x.sum)
  | [], x, d, _, _ => by simp [und]
  | j :: is, x, d, hl, h => by
    have hj := h j List.mem_cons_self
    have ih := und_dif p i is (poured x p.1 p.2 j) (poured d p.1 p.2 j) (by rw [poured_len, poured_len, hl]) fun k hk => by rw [poured_len]; exact h k (List.mem_cons_of_mem _ hk)
    rw [und, und, ih, poured_at i hj, poured_at i (by rw [← hl]; exact hj), poured_sum hj, poured_sum (by rw [← hl]; exact hj), List.length_cons, Int.pow_succ, Int.pow_succ]
    generalize p.1 ^ is.length = a
    generalize p.2 ^ is.length = b
    split <;> grind
/-- .. all times a number -/
theorem poured_scale (k : Int) (x : List Int) (s w : Int) (i : Nat) : poured (x.map (k * ·)) s w i = (poured x s w i).map (k * ·) := by
  unfold poured
  rw [map_at, sum_mul, List.map_set, List.map_map, List.map_map]
  congr 1
  · refine List.map_congr_left fun y _ => ?_
    show s * (k * y) = k * (s * y)
    grind
  · grind
theorem und_plain {p : Int × Int} {m : Nat} (hm : m ≤ 8) (hp : Kp p) : ∀ (is : List Nat) (x : List Int) (B : Nat), (∀ i ∈ is, i < m) → Ct m B x → ∀ k : Int, 0 < k → plain (und p (x.map (k * ·)) is) = lastBy x (byOne p is)
  | [], x, B, _, h, k, hk => by
    show plain (x.map (k * ·)) = x
    exact plain_times h hk
  | i :: is, x, B, hi, h, k, hk => by
    obtain ⟨k1, k2, k3, k4⟩ := id hp
    have hii := hi i List.mem_cons_self
    have hst := step_ct h hm hii k1 k2 k3
    have hnn := fun y hy => (poured_bd h.bd h.len hm hii k1 k2 k3 y hy).1
    have hps : 0 < (poured x p.1 p.2 i).sum := by
      rw [poured_sum (by rw [h.len]; exact hii)]
      exact Int.mul_pos (by omega) h.pos
    obtain ⟨_, g0⟩ := plain_sum_pos hnn hps
    have e : poured (x.map (k * ·)) p.1 p.2 i = (stepC x p.1 p.2 i).map ((k * gl 0 (poured x p.1 p.2 i)) * ·) := by
      rw [poured_scale]
      unfold stepC
      conv => lhs; rw [← plain_mul hnn]
      rw [List.map_map]
      refine List.map_congr_left fun y _ => ?_
      show k * (gl 0 (poured x p.1 p.2 i) * y) = k * gl 0 (poured x p.1 p.2 i) * y
      grind
    rw [und, e, byOne_cons, lastBy]
    exact und_plain hm hp is _ (B + 11) (fun j hj => hi j (List.mem_cons_of_mem _ hj)) hst _ (Int.mul_pos hk g0)
/-- the limit is only made greater by the row -/
theorem und_lim {p : Int × Int} (hp : Kp p) {m : Nat} {is : List Nat} (hm : m ≤ 8) (hi : ∀ i ∈ is, i < m) (h0 : is ≠ []) (hl : is.length ≤ 60) : und p (limC p m is) is = (limC p m is).map (p.2 ^ is.length * ·) := by
  obtain ⟨k1, k2, k3, k4⟩ := id hp
  have hct := lim_ct hp hi h0 hl
  have e := und_plain hm hp is (limC p m is) 430 hi hct 1 (by omega)
  rw [show (limC p m is).map ((1 : Int) * ·) = limC p m is by simp, lim_back hp hm hi h0 hl] at e
  have hnn := und_nn (p := p) (by omega) (by omega) is (limC p m is) fun y hy => (hct.bd y hy).1
  have hm2 := plain_mul hnn
  have hs := und_sum p is (limC p m is) fun i h => by rw [hct.len]; exact hi i h
  rw [e] at hm2
  have hs2 := congrArg List.sum hm2
  rw [sum_mul, hs] at hs2
  have := Int.eq_of_mul_eq_mul_right (by have := hct.pos; omega) hs2
  rw [← hm2, this]
theorem zip_at {xs ys : List Int} (f : Int × Int → Int) (g : Nat → Int) (hl : xs.length = ys.length) (h : ∀ i, i < xs.length → f (xs[i]?.getD 0, ys[i]?.getD 0) = g i) : (xs.zip ys).map f = (List.range xs.length).map g := by
  apply List.ext_getElem
  · simp [hl]
  · intro i h1 h2
    have hi : i < xs.length := by simpa using h2
    have := h i hi
    rw [List.getElem?_eq_getElem hi, List.getElem?_eq_getElem (by omega)] at this
    simpa using this
theorem apart_round {p : Int × Int} (hp : Kp p) {m : Nat} {is : List Nat} (hm : m ≤ 8) (hi : ∀ i ∈ is, i < m) (h0 : is ≠ []) (hl : is.length ≤ 60) {x : List Int} (hx : x.length = m) : apart (und p x is) (limC p m is) = p.1 ^ is.length * apart x (limC p m is) := by
  have hct := lim_ct hp hi h0 hl
  obtain ⟨k1, k2, k3, k4⟩ := id hp
  unfold apart
  rw [← maxL_scale (Int.pow_nonneg (by omega)), List.map_map]
  congr 1
  rw [zip_at (xs := und p x is) (ys := limC p m is) (fun q => absI (dif (limC p m is).sum (und p x is).sum q)) (fun i => p.1 ^ is.length * absI (dif (limC p m is).sum x.sum (x[i]?.getD 0, (limC p m is)[i]?.getD 0))) (by rw [und_len, hx, hct.len]) fun i hi2 => ?_]
  · rw [zip_at (xs := x) (ys := limC p m is) _ (fun i => p.1 ^ is.length * absI (dif (limC p m is).sum x.sum (x[i]?.getD 0, (limC p m is)[i]?.getD 0))) (by rw [hx, hct.len]) fun i _ => rfl, und_len]
  · rw [← absI_mul (Int.pow_nonneg (by omega))]
    congr 1
    have e := und_dif p i is x (limC p m is) (by rw [hx, hct.len]) fun j hj => by rw [hx]; exact hi j hj
    rw [und_lim hp hm hi h0 hl, map_at, sum_mul] at e
    unfold dif
    have hw : (0 : Int) < p.2 ^ is.length := Int.pow_pos (by omega)
    refine Int.eq_of_mul_eq_mul_left (by omega : (p.2 ^ is.length : Int) ≠ 0) ?_
    simp only
    generalize (und p x is)[i]?.getD 0 = u at *
    generalize (limC p m is)[i]?.getD 0 = v at *
    generalize (und p x is).sum = X at *
    generalize (limC p m is).sum = D at *
    generalize x[i]?.getD 0 = y at *
    generalize x.sum = Y at *
    generalize p.1 ^ is.length = a at *
    generalize p.2 ^ is.length = b at *
    grind
/-- so many rounds -/
def rnd (p : Int × Int) (is : List Nat) (x : List Int) : Nat → List Int
  | 0 => x
  | t + 1 => und p (rnd p is x t) is
theorem rnd_facts {p : Int × Int} (hp : Kp p) {m : Nat} {is : List Nat} (hm : m ≤ 8) (hi : ∀ i ∈ is, i < m) (h0 : is ≠ []) (hl : is.length ≤ 60) {x : List Int} (hx : x.length = m) (hnn : ∀ y ∈ x, 0 ≤ y) : ∀ t : Nat,
    (rnd p is x t).length = m ∧ (∀ y ∈ rnd p is x t, 0 ≤ y) ∧ (rnd p is x t).sum = p.2 ^ (is.length * t) * x.sum ∧ apart (rnd p is x t) (limC p m is) = p.1 ^ (is.length * t) * apart x (limC p m is)
  | 0 => ⟨hx, hnn, by simp [rnd], by simp [rnd]⟩
  | t + 1 => by
    obtain ⟨k1, k2, k3, k4⟩ := id hp
    obtain ⟨a1, a2, a3, a4⟩ := rnd_facts hp hm hi h0 hl hx hnn t
    refine ⟨by rw [rnd, und_len, a1], und_nn (by omega) (by omega) is _ a2, ?_, ?_⟩
    · rw [rnd, und_sum p is _ (fun i h => by rw [a1]; exact hi i h), a3, Nat.mul_succ, Int.pow_add]; grind
    · rw [rnd, apart_round hp hm hi h0 hl a1, a4, Nat.mul_succ, Int.pow_add]; grind
theorem log_of' {x : Int} {n : Nat} (h : x.natAbs < 2 ^ n) (hn : n ≤ 8900) : x.natAbs.log2 < 9000 := by
  by_cases h0 : x.natAbs = 0
  · rw [h0]; decide
  · have := (Nat.log2_lt h0).mpr h
    omega
theorem mul_lt'' {x y : Int} {a b : Nat} (hx : x.natAbs < 2 ^ a) (hy : y.natAbs < 2 ^ b) : (x * y).natAbs < 2 ^ (a + b) := by
  rw [Int.natAbs_mul, Nat.pow_add]
  exact Nat.mul_lt_mul_of_lt_of_le hx (Nat.le_of_lt hy) (Nat.pow_pos (by omega))
theorem le_sum {xs : List Int} (h : ∀ x ∈ xs, 0 ≤ x) : ∀ x ∈ xs, x ≤ xs.sum := fun x hx => by
  induction xs with
  | nil => simp at hx
  | cons y ys ih =>
    have h1 := h y List.mem_cons_self
    have h2 := sum_nonneg (xs := ys) fun z hz => h z (List.mem_cons_of_mem _ hz)
    rw [List.sum_cons]
    rcases List.mem_cons.mp hx with rfl | hx
    · omega
    · have := ih (fun z hz => h z (List.mem_cons_of_mem _ hz)) hx
      omega
/-- numbers from 0 on with a bounded sum -/
structure Nn (m N : Nat) (x : List Int) : Prop where
  len : x.length = m
  nn : ∀ y ∈ x, 0 ≤ y
  lt : x.sum < 2 ^ N
theorem Nn.s0 {m N : Nat} {x : List Int} (h : Nn m N x) : 0 ≤ x.sum := sum_nonneg h.nn
theorem Nn.sA {m N : Nat} {x : List Int} (h : Nn m N x) : x.sum.natAbs < 2 ^ N := natAbs_lt h.s0 h.lt
theorem Nn.eA {m N : Nat} {x : List Int} (h : Nn m N x) {y : Int} (hy : y ∈ x) : y.natAbs < 2 ^ N := natAbs_lt (h.nn y hy) (Int.lt_of_le_of_lt (le_sum h.nn y hy) h.lt)
theorem Ct.nn' {m B : Nat} {x : List Int} (h : Ct m B x) (m8 : m ≤ 8) : Nn m (B + 4) x := ⟨h.len, fun y hy => (h.bd y hy).1, h.sum_lt m8⟩
def difs (c d : List Int) : List Int := (c.zip d).map fun q => absI (dif d.sum c.sum q)
theorem max1_difs {c d : List Int} {m : Nat} (hc : c.length = m) (hd : d.length = m) (m1 : 1 ≤ m) (μ : Store) : max1D (.new (dI (difs c d))) μ = .ok (.int (apart c d)) μ := by
  have h : 0 < (difs c d).length := by unfold difs; simp [hc, hd]; omega
  unfold max1D
  rw [asL_new, Option.bind_some, intsOf_dI]
  simp only
  rw [if_pos h]; rfl
/-! the least number of rounds -/
def cnd (A b S W : Int) (f : Int × Int) (j : Nat) : Prop := f.1 * (b * W ^ j) < A * S ^ j * f.2
theorem least {P : Nat → Prop} : ∀ N : Nat, P N → ∃ J, J ≤ N ∧ P J ∧ ∀ i, i < J → ¬ P i := fun N => by
  induction N using Nat.strongRecOn with
  | ind N ih =>
    intro h
    by_cases e : ∃ i, i < N ∧ P i
    · obtain ⟨i, hi, hp⟩ := e
      obtain ⟨J, a, b, c⟩ := ih i hi hp
      exact ⟨J, by omega, b, c⟩
    · exact ⟨N, Nat.le_refl _, h, fun i hi hp => e ⟨i, hi, hp⟩⟩
theorem shrink {S W : Int} (s0 : 0 < S) (h : 100 * S ≤ 99 * W) : ∀ k : Nat, 0 < S ^ k ∧ 100 ^ k * S ^ k ≤ 99 ^ k * W ^ k
  | 0 => by simp
  | k + 1 => by
    obtain ⟨a, b⟩ := shrink s0 h k
    refine ⟨Int.pow_pos s0, ?_⟩
    have w0 : 0 < W := by omega
    have e1 : (100 : Int) ^ (k + 1) * S ^ (k + 1) = 100 ^ k * S ^ k * (100 * S) := by rw [Int.pow_succ, Int.pow_succ]; grind
    have e2 : (99 : Int) ^ (k + 1) * W ^ (k + 1) = 99 ^ k * W ^ k * (99 * W) := by rw [Int.pow_succ, Int.pow_succ]; grind
    rw [e1, e2]
    exact Int.mul_le_mul b h (by omega) (Int.mul_nonneg (Int.pow_nonneg (by decide)) (Int.pow_nonneg (by omega)))
theorem pow_share {s w : Int} (s1 : 1 ≤ s) (sw : s < w) (w1 : w ≤ 100) : ∀ n : Nat, 0 < s ^ (n + 1) ∧ 100 * s ^ (n + 1) ≤ 99 * w ^ (n + 1)
  | 0 => by
    have e : ∀ x : Int, x ^ (0 + 1) = x := fun x => by rw [Int.pow_succ]; simp
    rw [e, e]; omega
  | n + 1 => by
    obtain ⟨a, b⟩ := pow_share s1 sw w1 n
    refine ⟨Int.pow_pos (by omega), ?_⟩
    rw [Int.pow_succ s, Int.pow_succ w]
    have e1 : 100 * (s ^ (n + 1) * s) = 100 * s ^ (n + 1) * s := by grind
    have e2 : 99 * (w ^ (n + 1) * w) = 99 * w ^ (n + 1) * w := by grind
    rw [e1, e2]
    exact Int.mul_le_mul b (by omega) (by omega) (Int.mul_nonneg (by decide) (Int.pow_nonneg (by omega)))
theorem ends {A b S W : Int} {f : Int × Int} (s0 : 0 < S) (h : 100 * S ≤ 99 * W) (hA : 0 ≤ A) (hAb : A ≤ b) (f0 : 1 ≤ f.1) (f1 : 0 < f.2) (f2 : f.2 ≤ 1000000) : ¬ cnd A b S W f 1500 := by
  obtain ⟨a1, a2⟩ := shrink s0 h 1500
  unfold cnd
  have num : (1000000 : Int) * 99 ^ 1500 ≤ 100 ^ 1500 := by decide +kernel
  have w0 : 0 < W := by omega
  have wp : 0 < W ^ 1500 := Int.pow_pos w0
  have key : 1000000 * S ^ 1500 ≤ W ^ 1500 := by
    have p : (0 : Int) < 100 ^ 1500 := Int.pow_pos (by decide)
    refine Int.le_of_mul_le_mul_left (a := 100 ^ 1500) ?_ p
    generalize (100 : Int) ^ 1500 = H at *
    generalize (99 : Int) ^ 1500 = K at *
    generalize S ^ 1500 = x at *
    generalize W ^ 1500 = y at *
    have := Int.mul_le_mul_of_nonneg_left a2 (show (0 : Int) ≤ 1000000 by decide)
    have := Int.mul_le_mul_of_nonneg_right num (show 0 ≤ y by omega)
    grind
  generalize S ^ 1500 = x at *
  generalize W ^ 1500 = y at *
  have b0 : 0 ≤ b := by omega
  have t1 : A * x * f.2 ≤ A * x * 1000000 := Int.mul_le_mul_of_nonneg_left f2 (Int.mul_nonneg hA (by omega))
  have t2 : A * (1000000 * x) ≤ A * y := Int.mul_le_mul_of_nonneg_left key hA
  have t3 : A * y ≤ b * y := Int.mul_le_mul_of_nonneg_right hAb (by omega)
  have t4 : 1 * (b * y) ≤ f.1 * (b * y) := Int.mul_le_mul_of_nonneg_right f0 (Int.mul_nonneg b0 (by omega))
  have t5 : A * x * 1000000 = A * (1000000 * x) := by grind
  omega
theorem gp_lt {t S : Int} {a e : Nat} (ht : t.natAbs < 2 ^ a) (hS : S.natAbs < 2 ^ e) : ∀ j : Nat, (t * S ^ j).natAbs < 2 ^ (a + e * j)
  | 0 => by simpa using ht
  | j + 1 => by
    have := mul_lt'' (gp_lt ht hS j) hS
    rw [Int.pow_succ, ← Int.mul_assoc, Nat.mul_succ, ← Nat.add_assoc]
    exact this
/-! the program -/
def Fr (f : Int × Int) : Prop := 0 ≤ f.1 ∧ f.1 ≤ f.2 ∧ 1 ≤ f.2 ∧ f.2 ≤ 1000000 ∧ Int.gcd f.1 f.2 = 1
theorem apart_le {c d : List Int} {m N M : Nat} (hc : Nn m N c) (hd : Nn m M d) (m1 : 1 ≤ m) : 0 ≤ apart c d ∧ apart c d ≤ c.sum * d.sum := by
  have hne : c.zip d ≠ [] := by
    intro e
    have := congrArg List.length e
    simp [hc.len, hd.len] at this
    omega
  refine ⟨apart_nn hne, ?_⟩
  have := maxL_mem (xs := (c.zip d).map fun q => absI (dif d.sum c.sum q)) (by simpa using hne)
  obtain ⟨q, hq, e⟩ := List.mem_map.mp this
  unfold apart
  rw [← e]
  obtain ⟨q1, q2⟩ := List.of_mem_zip (show (q.1, q.2) ∈ _ from hq)
  have a0 := hc.nn _ q1
  have a1 := le_sum hc.nn _ q1
  have b0 := hd.nn _ q2
  have b1 := le_sum hd.nn _ q2
  have x1 := Int.mul_nonneg a0 hd.s0
  have x2 := Int.mul_nonneg b0 hc.s0
  have x3 : q.1 * d.sum ≤ c.sum * d.sum := Int.mul_le_mul_of_nonneg_right a1 hd.s0
  have x4 : q.2 * c.sum ≤ d.sum * c.sum := Int.mul_le_mul_of_nonneg_right b1 hc.s0
  rw [Int.mul_comm d.sum c.sum] at x4
  unfold absI dif
  split <;> omega
structure Dst (m B : Nat) (c : List Int) (p : Int × Int) (is : List Nat) : Prop where
  ct : Ct m B c
  m1 : 1 ≤ m
  m8 : m ≤ 8
  hB : B ≤ 1000
  kp : Kp p
  hi : ∀ i ∈ is, i < m
  h0 : is ≠ []
  hl : is.length ≤ 60
def dA (m : Nat) (c : List Int) (p : Int × Int) (is : List Nat) : Int := apart c (limC p m is)
def dB (m : Nat) (c : List Int) (p : Int × Int) (is : List Nat) : Int := c.sum * (limC p m is).sum
section
variable {m B : Nat} {c : List Int} {p : Int × Int} {is : List Nat}
theorem Dst.lim (h : Dst m B c p is) : Ct m 430 (limC p m is) := lim_ct h.kp h.hi h.h0 h.hl
theorem Dst.ab (h : Dst m B c p is) : 0 ≤ dA m c p is ∧ dA m c p is ≤ dB m c p is ∧ 0 < dB m c p is ∧ (dB m c p is).natAbs < 2 ^ 1440 ∧ (dA m c p is).natAbs < 2 ^ 1440 := by
  have hc := h.ct.nn' h.m8
  have hd := h.lim.nn' h.m8
  obtain ⟨a1, a2⟩ := apart_le hc hd h.m1
  have b1 := Int.mul_pos h.ct.pos h.lim.pos
  have hB := h.hB
  have b2 : (dB m c p is).natAbs < 2 ^ 1440 := by
    have := mul_lt'' hc.sA hd.sA
    exact Nat.lt_of_lt_of_le this (Nat.pow_le_pow_right (by omega) (by omega))
  have a2' : dA m c p is ≤ dB m c p is := a2
  have b1' : 0 < dB m c p is := b1
  have a1' : 0 ≤ dA m c p is := a1
  refine ⟨a1', a2', b1', b2, ?_⟩
  omega
/-- what rounds_within answers -/
def roundsD (A : Int) (f : Int × Int) (J : Nat) : D := if f.1 = 0 then (if A = 0 then .int 0 else .non) else .int (J : Int)
end
/-! histories: the program's parts -/
/-- the liquids that can be the last one -/
def leastI (p : Int × Int) (S : Int) : Int := (p.2 - p.1) * (S / p.2)
def oddN (p : Int × Int) (c : List Int) : List Nat := (List.range c.length).filter fun l => decide (c[l]?.getD 0 % p.1 ≠ 0)
def lastN (p : Int × Int) (c : List Int) : List Nat :=
  if 1 < p.1 then (oddN p c).filter fun l => decide ((oddN p c).length = 1) && decide (leastI p c.sum ≤ c[l]?.getD 0)
  else (List.range c.length).filter fun l => decide (leastI p c.sum ≤ c[l]?.getD 0)
theorem enum_dI (c : List Int) : enumL 0 (dI c) = (List.range c.length).map fun l : Nat => D.tup [.int (l : Int), .int (c[l]?.getD 0)] := by
  have e := enumL_map (fun x : Int => D.int x) c 0
  unfold dI
  rw [e]
  apply List.ext_getElem
  · simp
  · intro i h1 h2
    have hi : i < c.length := by simpa using h1
    simp [List.getElem?_eq_getElem hi]
theorem lastN_sub {p : Int × Int} {c : List Int} {l : Nat} (h : l ∈ lastN p c) : l < c.length ∧ leastI p c.sum ≤ c[l]?.getD 0 := by
  unfold lastN at h
  split at h
  · rw [List.mem_filter, Bool.and_eq_true, decide_eq_true_iff, decide_eq_true_iff] at h
    have := (List.mem_filter.mp h.1).1
    exact ⟨List.mem_range.mp this, h.2.2⟩
  · rw [List.mem_filter, decide_eq_true_iff] at h
    exact ⟨List.mem_range.mp h.1, h.2⟩
/-! going back -/
def back (p : Int × Int) (c : List Int) (l : Nat) : List Int := (c.map (p.2 * ·)).set l (p.2 * (c[l]?.getD 0) - (p.2 - p.1) * c.sum)
def undC (p : Int × Int) (c : List Int) (l : Nat) : List Int := plain (back p c l)
theorem back_len (p : Int × Int) (c : List Int) (l : Nat) : (back p c l).length = c.length := by simp [back]
theorem back_sum {p : Int × Int} {c : List Int} {l : Nat} (h : l < c.length) : (back p c l).sum = p.1 * c.sum := by
  unfold back
  rw [sum_set _ _ _ (by simpa using h), sum_mul]
  have e : (c.map (p.2 * ·))[l]?.getD 0 = p.2 * (c[l]?.getD 0) := by
    rw [List.getElem?_map, List.getElem?_eq_getElem h]; rfl
  rw [e]
  grind
theorem back_zip (p : Int × Int) (c : List Int) (l : Nat) (h : l < c.length) : c.zipIdx.map (fun q => p.2 * q.1 - (if (q.2 : Int) = (l : Int) then 1 else 0) * ((p.2 - p.1) * c.sum)) = back p c l := by
  apply List.ext_getElem
  · simp [back]
  · intro j h1 h2
    have hj : j < c.length := by simpa using h1
    simp only [back, List.getElem_map, List.getElem_zipIdx, List.getElem_set, Nat.zero_add]
    by_cases e : l = j
    · subst e
      simp [List.getElem?_eq_getElem hj]
    · have e' : ¬ ((j : Int) = (l : Int)) := by omega
      simp [e, e']
theorem back_bd {p : Int × Int} {c : List Int} {m B l : Nat} (h : Ct m B c) (hp : Kp p) (hl : l < m) (hd : p.2 ∣ c.sum) (hle : leastI p c.sum ≤ c[l]?.getD 0) : Bd (B + 11) (back p c l) := by
  obtain ⟨k1, k2, k3, k4⟩ := hp
  obtain ⟨q, hq⟩ := hd
  have hs := h.pos
  have e : (2 : Int) ^ (B + 11) = 2048 * 2 ^ B := by rw [Int.pow_add, Int.mul_comm]; rfl
  have hq2 : c.sum / p.2 = q := Int.ediv_eq_of_eq_mul_right (by omega) hq
  unfold leastI at hle
  rw [hq2] at hle
  have hlc : l < c.length := by rw [h.len]; exact hl
  intro x hx
  rcases mem_set hx with rfl | hx
  · have hm : c[l]?.getD 0 ∈ c := by rw [List.getElem?_eq_getElem hlc]; exact List.getElem_mem hlc
    obtain ⟨b0, b1⟩ := h.bd _ hm
    generalize c[l]?.getD 0 = y at *
    have h1 : p.2 * ((p.2 - p.1) * q) ≤ p.2 * y := Int.mul_le_mul_of_nonneg_left hle (by omega)
    have h2 : (p.2 - p.1) * c.sum = p.2 * ((p.2 - p.1) * q) := by rw [hq]; grind
    have h3 : 0 ≤ (p.2 - p.1) * c.sum := Int.mul_nonneg (by omega) (by omega)
    have h4 : p.2 * y ≤ 100 * y := Int.mul_le_mul_of_nonneg_right k3 b0
    omega
  · obtain ⟨y, hy, rfl⟩ := List.mem_map.mp hx
    obtain ⟨b0, b1⟩ := h.bd _ hy
    have h4 : p.2 * y ≤ 100 * y := Int.mul_le_mul_of_nonneg_right k3 b0
    have h5 := Int.mul_nonneg (show 0 ≤ p.2 by omega) b0
    omega
theorem back_pos {p : Int × Int} {c : List Int} {m B l : Nat} (h : Ct m B c) (hp : Kp p) (hl : l < m) : 0 < (back p c l).sum := by
  rw [back_sum (by rw [h.len]; exact hl)]
  exact Int.mul_pos (by have := hp.1; omega) h.pos
theorem und_ct {p : Int × Int} {c : List Int} {m B l : Nat} (h : Ct m B c) (hp : Kp p) (hl : l < m) (hd : p.2 ∣ c.sum) (hle : leastI p c.sum ≤ c[l]?.getD 0) : Ct m (B + 11) (undC p c l) := by
  have := plain_ct (back_bd h hp hl hd hle) (back_pos h hp hl)
  rw [back_len, h.len] at this
  exact this
/-- each step back divides the bottom by the whole, at least -/
theorem und_div {p : Int × Int} {c : List Int} {m B l : Nat} (h : Ct m B c) (hp : Kp p) (hl : l ∈ lastN p c) (hd : p.2 ∣ c.sum) : l < m ∧ p.2 * (undC p c l).sum ≤ c.sum ∧ leastI p c.sum ≤ c[l]?.getD 0 ∧ p.2 * p.1 ∣ gl 0 (back p c l) := by
  obtain ⟨hl1, hle⟩ := lastN_sub hl
  have hlm : l < m := by rw [← h.len]; exact hl1
  obtain ⟨k1, k2, k3, k4⟩ := id hp
  have hbd := back_bd h hp hlm hd hle
  have hbp := back_pos h hp hlm
  -- the others are divided by stays
  have hoth : ∀ j, j < c.length → j ≠ l → p.1 ∣ c[j]?.getD 0 := fun j hj hne => by
    by_cases h1 : 1 < p.1
    · unfold lastN at hl
      rw [if_pos h1, List.mem_filter, Bool.and_eq_true, decide_eq_true_iff, decide_eq_true_iff] at hl
      obtain ⟨a1, a2, _⟩ := hl
      by_cases hz : c[j]?.getD 0 % p.1 = 0
      · exact Int.dvd_of_emod_eq_zero hz
      · exfalso
        have hj2 : j ∈ oddN p c := List.mem_filter.mpr ⟨List.mem_range.mpr hj, decide_eq_true hz⟩
        obtain ⟨z, hz⟩ := List.length_eq_one_iff.mp a2
        rw [hz, List.mem_singleton] at a1 hj2
        omega
    · have : p.1 = 1 := by omega
      rw [this]; exact Int.one_dvd _
  obtain ⟨q, hq⟩ := hd
  have hdv : p.2 * p.1 ∣ gl 0 (back p c l) := by
    have hj : ∀ j, j < c.length → j ≠ l → p.2 * p.1 ∣ (back p c l)[j]?.getD 0 := fun j hj hne => by
      have : (back p c l)[j]?.getD 0 = p.2 * (c[j]?.getD 0) := by
        unfold back
        rw [List.getElem?_set_ne (by omega), List.getElem?_map, List.getElem?_eq_getElem hj]; rfl
      rw [this]
      exact Int.mul_dvd_mul_left _ (hoth j hj hne)
    -- .. and so is the last part, as the rest of the sum
    have hsum : ∀ (xs : List Int) (l : Nat), l < xs.length → (∀ j, j < xs.length → j ≠ l → p.2 * p.1 ∣ xs[j]?.getD 0) → p.2 * p.1 ∣ xs.sum → ∀ x ∈ xs, p.2 * p.1 ∣ x := fun xs l hl ho hs x hx => by
      obtain ⟨j, hj, rfl⟩ := List.mem_iff_getElem.mp hx
      by_cases e : j = l
      · subst e
        have hz : ∀ y ∈ xs.set j 0, p.2 * p.1 ∣ y := fun y hy => by
          obtain ⟨i, hi, rfl⟩ := List.mem_iff_getElem.mp hy
          rw [List.length_set] at hi
          rw [List.getElem_set]
          by_cases e : j = i
          · rw [if_pos e]; exact Int.dvd_zero _
          · rw [if_neg e]
            have := ho i hi (by omega)
            rwa [List.getElem?_eq_getElem hi] at this
        have hss : ∀ ys : List Int, (∀ y ∈ ys, p.2 * p.1 ∣ y) → p.2 * p.1 ∣ ys.sum := fun ys => by
          induction ys with
          | nil => intro _; simp
          | cons y ys ih =>
            intro hy
            rw [List.sum_cons]
            exact Int.dvd_add (hy y List.mem_cons_self) (ih fun z hz => hy z (List.mem_cons_of_mem _ hz))
        have h1 := hss _ hz
        rw [sum_set _ _ _ hj, List.getElem?_eq_getElem hj, Option.getD_some] at h1
        have := Int.dvd_sub hs h1
        have e : xs.sum - (xs.sum - xs[j] + 0) = xs[j] := by omega
        rwa [e] at this
      · have := ho j hj e
        rwa [List.getElem?_eq_getElem hj] at this
    refine dvd_gl _ 0 (Int.dvd_zero _) (hsum _ l (by rw [back_len]; exact hl1) (fun j h1 h2 => hj j (by rwa [back_len] at h1) h2) ?_)
    rw [back_sum hl1, hq]
    exact ⟨q, by grind⟩
  refine ⟨hlm, ?_, hle, hdv⟩
  obtain ⟨z, hz⟩ := hdv
  have hm := plain_mul (xs := back p c l) fun x hx => (hbd x hx).1
  have h2 := congrArg List.sum hm
  rw [sum_mul, back_sum hl1, hz] at h2
  have hu := und_ct h hp hlm ⟨q, hq⟩ hle
  have g0 := (gl_pos (fun x hx => (hbd x hx).1) hbp).1
  have z0 : 0 < z := by
    rcases Int.lt_or_le 0 z with a | a
    · exact a
    · have := Int.mul_nonpos_of_nonneg_of_nonpos (show 0 ≤ p.2 * p.1 from Int.mul_nonneg (by omega) (by omega)) a
      omega
  have e3 : p.1 * (p.2 * (z * (undC p c l).sum)) = p.1 * c.sum := by
    have : (plain (back p c l)).sum = (undC p c l).sum := rfl
    rw [this] at h2
    rw [← h2]; grind
  have e4 := Int.eq_of_mul_eq_mul_left (by omega : p.1 ≠ 0) e3
  have hup := hu.pos
  have : 1 * (undC p c l).sum ≤ z * (undC p c l).sum := Int.mul_le_mul_of_nonneg_right (by omega) (by omega)
  rw [Int.one_mul] at this
  have := Int.mul_le_mul_of_nonneg_left this (show 0 ≤ p.2 by omega)
  rw [e4] at this
  omega
/-- goes on -/
def Can (p : Int × Int) (c : List Int) : Prop := 1 < c.sum ∧ ∃ e : Nat, c.sum = p.2 ^ e
inductive Back (p : Int × Int) : List Int → List Nat → List Int → Prop
  | stop {c} : ¬ Can p c → Back p c [] c
  | stuck {c} : Can p c → lastN p c = [] → Back p c [] c
  | step {c l u c'} : Can p c → (lastN p c).getLast? = some l → Back p (undC p c l) u c' → Back p c (l :: u) c'
theorem can_dvd {p : Int × Int} {c : List Int} (hp : Kp p) (h : Can p c) : p.2 ∣ c.sum := by
  obtain ⟨h1, e, h2⟩ := h
  cases e with
  | zero => rw [Int.pow_zero] at h2; omega
  | succ e => exact ⟨p.2 ^ e, by rw [h2, Int.pow_succ]; grind⟩
theorem can_of {p : Int × Int} {c : List Int} {e : Nat} {r : Int} (hp : Kp p) (h : c.sum = p.2 ^ e * r) (h1 : ¬ p.2 ∣ r) (h2 : 1 ≤ r) : (∃ e : Nat, c.sum = p.2 ^ e) ↔ r = 1 := by
  obtain ⟨k1, k2, k3, k4⟩ := hp
  constructor
  · rintro ⟨k, hk⟩
    rw [h] at hk
    rcases Nat.lt_trichotomy k e with z | z | z
    · exfalso
      obtain ⟨d, rfl⟩ : ∃ d, e = k + (d + 1) := ⟨e - k - 1, by omega⟩
      rw [Int.pow_add, Int.mul_assoc] at hk
      have e1 : p.2 ^ k * (p.2 ^ (d + 1) * r) = p.2 ^ k * 1 := by rw [hk, Int.mul_one]
      have := Int.eq_of_mul_eq_mul_left (by have := Int.pow_pos (n := p.2) (m := k) (by omega); omega) e1
      have hd : p.2 ∣ 1 := ⟨p.2 ^ d * r, by rw [← this, Int.pow_succ]; grind⟩
      have := Int.le_of_dvd (by decide) hd
      omega
    · subst z
      have e1 : p.2 ^ k * r = p.2 ^ k * 1 := by rw [hk, Int.mul_one]
      exact Int.eq_of_mul_eq_mul_left (by have := Int.pow_pos (n := p.2) (m := k) (by omega); omega) e1
    · exfalso
      obtain ⟨d, rfl⟩ : ∃ d, k = e + (d + 1) := ⟨k - e - 1, by omega⟩
      rw [Int.pow_add] at hk
      have := Int.eq_of_mul_eq_mul_left (by have := Int.pow_pos (n := p.2) (m := e) (by omega); omega) hk
      exact h1 ⟨p.2 ^ d, by rw [this, Int.pow_succ]; grind⟩
  · rintro rfl
    exact ⟨e, by rw [h, Int.mul_one]⟩
theorem le_sumH {xs : List Int} (h : ∀ x ∈ xs, 0 ≤ x) : ∀ x ∈ xs, x ≤ xs.sum := fun x hx => by
  induction xs with
  | nil => simp at hx
  | cons y ys ih =>
    have h1 := h y List.mem_cons_self
    have h2 := sum_nonneg (xs := ys) fun z hz => h z (List.mem_cons_of_mem _ hz)
    rw [List.sum_cons]
    rcases List.mem_cons.mp hx with rfl | hx
    · omega
    · have := ih (fun z hz => h z (List.mem_cons_of_mem _ hz)) hx
      omega
/-- a content by its bottom alone -/
theorem Ct.small {m B K : Nat} {c : List Int} (h : Ct m B c) (hs : c.sum < 2 ^ K) : Ct m K c :=
  ⟨h.len, fun x hx => ⟨(h.bd x hx).1, Int.lt_of_le_of_lt (le_sumH (fun x hx => (h.bd x hx).1) x hx) hs⟩, h.pos, h.gcd⟩
theorem eqD_dN_nil (μ : Store) (is : List Nat) : eqD μ (.lst (dN is)) (.new []) = some is.isEmpty := eqD_nil μ (fun i : Nat => (i : Int)) is
theorem last_dN {is : List Nat} {l : Nat} (h : is.getLast? = some l) : L2.atI (dN is) (-1) = some (.int (l : Int)) := by
  obtain ⟨ys, rfl⟩ := List.getLast?_eq_some_iff.mp h
  have h1 : (dN (ys ++ [l])).length = ys.length + 1 := by simp [dN]
  have h2 : (dN (ys ++ [l]))[ys.length]? = some (.int (l : Int)) := by simp [dN]
  generalize dN (ys ++ [l]) = Z at *
  unfold L2.atI L2.ixN
  rw [h1]
  rw [if_neg (by omega), if_pos (by omega)]
  have e : ((-1 : Int) + ((ys.length + 1 : Nat) : Int)).toNat = ys.length := by omega
  first
    | (simp only [Option.bind_some]; rw [e]; exact h2)
    | (simp; rw [← h2]; congr 1; omega)

theorem eqD_dPq (μ : Store) (p q : Int × Int) : eqD μ (dP p) (dP q) = some (decide (p = q)) := by
  rw [eqD_pl (Pl_dP p) (Pl_dP q) (by omega) (by omega)]
  obtain ⟨a, b⟩ := p
  obtain ⟨c, d⟩ := q
  simp only [PyData.eqv, PyData.eqvAll, Prod.mk.injEq]
  by_cases h1 : a = c <;> by_cases h2 : b = d <;> simp [h1, h2]
/-- a bottom of 1: one liquid alone -/
theorem sum_one {m B : Nat} {c : List Int} (h : Ct m B c) (hs : c.sum = 1) : ∃ i, i < m ∧ c = pureC m i := by
  have hnn := fun x hx => (h.bd x hx).1
  have key : ∀ xs : List Int, (∀ x ∈ xs, 0 ≤ x) → xs.sum = 1 → ∃ i, i < xs.length ∧ ∀ j, j < xs.length → xs[j]?.getD 0 = if j = i then 1 else 0 := fun xs => by
    induction xs with
    | nil => intro _ h; simp at h
    | cons x xs ih =>
      intro hn hs
      rw [List.sum_cons] at hs
      have h0 := hn x List.mem_cons_self
      have h1 := sum_nonneg (xs := xs) fun z hz => hn z (List.mem_cons_of_mem _ hz)
      by_cases hx : x = 0
      · obtain ⟨i, hi, hi2⟩ := ih (fun z hz => hn z (List.mem_cons_of_mem _ hz)) (by omega)
        refine ⟨i + 1, by simp; omega, fun j hj => ?_⟩
        cases j with
        | zero => simp [hx]
        | succ j =>
          rw [List.getElem?_cons_succ, hi2 j (by simpa using hj)]
          by_cases e : j = i
          · simp [e]
          · rw [if_neg e, if_neg (by omega)]
      · have hx1 : x = 1 := by omega
        have hz : ∀ y ∈ xs, y = 0 := fun y hy => by
          have a1 := le_sumH (fun z hz => hn z (List.mem_cons_of_mem _ hz)) y hy
          have a2 := hn y (List.mem_cons_of_mem _ hy)
          omega
        refine ⟨0, by simp, fun j hj => ?_⟩
        cases j with
        | zero => simp [hx1]
        | succ j =>
          have hj2 : j < xs.length := by simpa using hj
          rw [List.getElem?_cons_succ, List.getElem?_eq_getElem hj2]
          rw [if_neg (by omega)]
          exact hz _ (List.getElem_mem hj2)
  obtain ⟨i, hi, hi2⟩ := key c hnn hs
  refine ⟨i, by rw [← h.len]; exact hi, ?_⟩
  apply List.ext_getElem
  · simp [pureC, h.len]
  · intro j h1 h2
    have := hi2 j h1
    rw [List.getElem?_eq_getElem h1, Option.getD_some] at this
    rw [this]
    simp [pureC]
theorem pure_sum {m i : Nat} (hi : i < m) : (pureC m i).sum = 1 := by
  have h := pure_ct hi
  have e := sum_set (pureC m i) i 0 (by rw [h.len]; exact hi)
  have hz : ((pureC m i).set i 0).sum = 0 := by
    have : ∀ ys : List Int, (∀ y ∈ ys, y = 0) → ys.sum = 0 := fun ys => by
      induction ys with
      | nil => intro _; rfl
      | cons y ys ih =>
        intro hy
        rw [List.sum_cons, hy y List.mem_cons_self, ih fun z hz => hy z (List.mem_cons_of_mem _ hz)]; rfl
    refine this _ fun y hy => ?_
    obtain ⟨j, hj, rfl⟩ := List.mem_iff_getElem.mp hy
    rw [List.length_set] at hj
    rw [List.getElem_set]
    split
    · rfl
    · rename_i hne
      simp only [pureC, List.getElem_map, List.getElem_range]
      rw [if_neg (by omega)]
  have hg : (pureC m i)[i]?.getD 0 = 1 := by simp [pureC, hi]
  rw [hz, hg] at e
  omega
theorem pure_at {m i j : Nat} (hj : j < m) : (pureC m i)[j]?.getD 0 = if j = i then 1 else 0 := by simp [pureC, hj]
theorem idxP_at (v : Int) : ∀ (xs : List Int) (k n : Nat), xs[k]? = some v → (∀ j, j < k → xs[j]? ≠ some v) → idxP (.int v) (xs.map fun x => .int x) n = some (n + k)
  | [], k, n, h, _ => by simp at h
  | x :: xs, 0, n, h, _ => by
    have : x = v := by simpa using h
    subst this
    simp [idxP, PyData.eqv]
  | x :: xs, k + 1, n, h, hn => by
    have h0 : x ≠ v := by simpa using hn 0 (by omega)
    rw [List.map_cons, idxP]
    have : PyData.eqv (.int x) (.int v) = false := by simp [PyData.eqv, h0]
    rw [this]
    simp only [Bool.false_eq_true, if_false]
    rw [idxP_at v xs k (n + 1) (by simpa using h) fun j hj => by simpa using hn (j + 1) (by omega)]
    congr 1; omega
theorem index_pure (μ : Store) {m i : Nat} (hi : i < m) : indexD (.lst (dI (pureC m i))) (.int 1) μ = .ok (.int (i : Int)) μ := by
  have e : idxD μ (.int 1) (.lst (dI (pureC m i))) = some i := by
    unfold idxD dI
    have p1 := Pl.int 0 (1 : Int)
    have p2 := Pl_ints (fun x : Int => x) (pureC m i)
    rw [(p1.ok (μ := μ) 40 (by omega)).1, (p2.ok (μ := μ) 40 (by omega)).1]
    simp only
    rw [p1.shaped (by omega), p2.shaped (by omega)]
    simp only [Bool.and_self, if_true]
    have := idxP_at 1 (pureC m i) i 0 (by simp [pureC, hi]) fun j hj => by
      have : j < m := by omega
      simp [pureC, this]
      omega
    rw [Nat.zero_add] at this
    exact this
  unfold indexD
  rw [e]
/-! histories -/
def shD (h : Option (Nat × List Nat)) : D := match h with
  | none => .non
  | some (s, r) => .tup [.int (s : Int), .new (dN r)]
def shF (h : Option (Nat × List Nat)) : D := match h with
  | none => .non
  | some (s, r) => .tup [.int (s : Int), .lst (dN r)]
def dH (h : Nat × List Nat) : D := .tup [.int (h.1 : Int), .lst (dN h.2)]
theorem frz_shD (h : Option (Nat × List Nat)) : frz (shD h) = shF h := by
  cases h with
  | none => rfl
  | some h => simp [shD, shF, frz, frzL]
theorem noPtr_shD (n : Nat) (h : Option (Nat × List Nat)) : noPtr n (shD h) = true := by
  cases h with
  | none => rfl
  | some h => simp [shD, noPtr, noPtrL]
/-- the short history of a content -/
inductive Sh (p : Int × Int) (m : Nat) (c : List Int) : Option (Nat × List Nat) → Prop
  | some {u i} : Back p c u (pureC m i) → i < m → Sh p m c (some (i, u.reverse))
  | none {u c'} : Back p c u c' → c'.sum ≠ 1 → Sh p m c none
section
variable {p : Int × Int} {m B : Nat} {c : List Int}
end
/-- all that are as short -/
def shs (p : Int × Int) : Option (Nat × List Nat) → List (Nat × List Nat)
  | none => []
  | some (s, r) => if p = (1, 2) then match r with
      | [] => [(s, r)]
      | a :: r' => [(s, r), (a, s :: r')]
    else [(s, r)]
section
variable {p : Int × Int} {m B : Nat} {c : List Int}
end
theorem noPtrL_dH (n : Nat) : ∀ xs : List (Nat × List Nat), noPtrL n (xs.map dH) = true
  | [] => rfl
  | x :: xs => by simp [dH, noPtrL, noPtr, noPtrL_dH n xs]
theorem frzL_dH : ∀ xs : List (Nat × List Nat), frzL (xs.map dH) = xs.map dH
  | [] => rfl
  | x :: xs => by simp [dH, frzL, frz, frzL_dH xs]
section
variable {p : Int × Int} {m B : Nat} {c : List Int}
def allOf (n : Nat) (hs : List (Nat × List Nat)) : List (Nat × List Nat) := (hs.filter fun h => decide (h.2.length ≤ n)).map fun h => (h.1, List.replicate (n - h.2.length) h.1 ++ h.2)
theorem rep_dN1 (μ : Store) (s k : Nat) (hk : k ≤ 1000) : repL μ (.new [.int (s : Int)]) (k : Int) = .ok (.new (dN (List.replicate k s))) μ := by
  have := rep_dN μ [s] k (by simp; omega) (by omega)
  have e : ∀ k : Nat, rep [s] k = List.replicate k s := fun k => by
    induction k with
    | zero => rfl
    | succ k ih => rw [rep_succ, ih, List.replicate_succ]; rfl
  rw [e] at this
  exact this
theorem cat_dNl (μ : Store) (a b : List Nat) (h : a.length + b.length ≤ 16777216) : catL μ (.new (dN a)) (.lst (dN b)) = .ok (.new (dN (a ++ b))) μ := by
  have e : dN a ++ dN b = dN (a ++ b) := by simp [dN]
  rw [← e]
  have l1 : (dN a).length = a.length := by simp [dN]
  have l2 : (dN b).length = b.length := by simp [dN]
  have n1 := frzL_dN a
  have n2 := frzL_dN b
  generalize dN a = A at *
  generalize dN b = B at *
  unfold catL
  simp only [asJ]
  rw [if_pos (by rw [sizeLine_val]; omega)]
end
/-! the row is told back -/
theorem at_nn {m B : Nat} {c : List Int} (h : Ct m B c) {i : Nat} (hi : i < m) : 0 ≤ c[i]?.getD 0 ∧ c[i]?.getD 0 ≤ c.sum := by
  have hi2 : i < c.length := by rw [h.len]; exact hi
  rw [List.getElem?_eq_getElem hi2, Option.getD_some]
  exact ⟨(h.bd _ (List.getElem_mem hi2)).1, le_sumH (fun x hx => (h.bd x hx).1) _ (List.getElem_mem hi2)⟩
/-- the whole sum in one part: one liquid alone -/
theorem all_in {m B : Nat} {c : List Int} (h : Ct m B c) {i : Nat} (hi : i < m) (he : c[i]?.getD 0 = c.sum) : c = pureC m i := by
  have hi2 : i < c.length := by rw [h.len]; exact hi
  have hz : ∀ j, j < c.length → j ≠ i → c[j]?.getD 0 = 0 := fun j hj hne => by
    have e := sum_set c i 0 hi2
    rw [he] at e
    have hnn : ∀ x ∈ c.set i 0, 0 ≤ x := fun x hx => by
      rcases mem_set hx with rfl | hx
      · exact Int.le_refl _
      · exact (h.bd x hx).1
    have hm : (c.set i 0)[j]'(by simpa using hj) ∈ c.set i 0 := List.getElem_mem _
    have h1 := le_sumH hnn _ hm
    have h2 := hnn _ hm
    rw [List.getElem_set_ne (by omega)] at h1 h2
    rw [List.getElem?_eq_getElem hj, Option.getD_some]
    omega
  have hd : c.sum ∣ gl 0 c := dvd_gl c 0 (Int.dvd_zero _) fun x hx => by
    obtain ⟨j, hj, rfl⟩ := List.mem_iff_getElem.mp hx
    by_cases e : j = i
    · subst e
      rw [List.getElem?_eq_getElem hj, Option.getD_some] at he
      rw [he]; exact Int.dvd_refl _
    · have := hz j hj e
      rw [List.getElem?_eq_getElem hj, Option.getD_some] at this
      rw [this]; exact Int.dvd_zero _
  rw [h.gcd] at hd
  have hs : c.sum = 1 := by
    have := Int.le_of_dvd (by decide) hd
    have := h.pos
    omega
  obtain ⟨k, hk, hk2⟩ := sum_one h hs
  have : c[i]?.getD 0 = 1 := by rw [he, hs]
  rw [hk2, pure_at hi] at this
  have : i = k := by
    by_cases e : i = k
    · exact e
    · rw [if_neg e] at this; omega
  rw [this]; exact hk2
theorem dvd_cop {k m n : Int} (h : k ∣ m * n) (g : Int.gcd k m = 1) : k ∣ n := by
  have h1 := Int.natAbs_dvd_natAbs.mpr h
  rw [Int.natAbs_mul] at h1
  exact Int.natAbs_dvd_natAbs.mp (Nat.Coprime.dvd_of_dvd_mul_left g h1)
theorem gcd_pow {s w : Int} (g : Int.gcd s w = 1) : ∀ n : Nat, Int.gcd s (w ^ n) = 1
  | 0 => by simp
  | n + 1 => by
    have h := gcd_pow g n
    rw [Int.pow_succ]
    rw [Int.gcd_mul_right_right_of_gcd_eq_one h]; exact g
/-- a top-up of a content that is led here has no divisor -/
theorem step_raw {p : Int × Int} {m B l e : Nat} {c : List Int} (hp : Kp p) (h : Ct m B c) (hl : l < m) (hs : c.sum = p.2 ^ e) (hne : c ≠ pureC m l) : gl 0 (poured c p.1 p.2 l) = 1 := by
  obtain ⟨k1, k2, k3, k4⟩ := id hp
  have hl2 : l < c.length := by rw [h.len]; exact hl
  have g0 := gl_nonneg (xs := poured c p.1 p.2 l) (Int.le_refl 0)
  have hd := (gl_dvd (poured c p.1 p.2 l) 0).2
  have hnn : ∀ x ∈ c, 0 ≤ x := fun x hx => (h.bd x hx).1
  generalize hg : gl 0 (poured c p.1 p.2 l) = g at *
  -- g divides the whole sum w^(e+1)
  have hsum : g ∣ p.2 ^ (e + 1) := by
    have hss : ∀ ys : List Int, (∀ y ∈ ys, g ∣ y) → g ∣ ys.sum := fun ys => by
      induction ys with
      | nil => intro _; simp
      | cons y ys ih =>
        intro hy
        rw [List.sum_cons]
        exact Int.dvd_add (hy y List.mem_cons_self) (ih fun z hz => hy z (List.mem_cons_of_mem _ hz))
    have := hss _ hd
    rw [poured_sum hl2, hs] at this
    rw [Int.pow_succ, Int.mul_comm]; exact this
  have hgs : Int.gcd g p.1 = 1 := by
    have h1 := gcd_pow k4 (e + 1)
    have h2 : Int.gcd g p.1 ∣ Int.gcd p.1 (p.2 ^ (e + 1)) := by
      have a1 : ((Int.gcd g p.1 : Nat) : Int) ∣ p.1 := Int.gcd_dvd_right ..
      have a2 : ((Int.gcd g p.1 : Nat) : Int) ∣ p.2 ^ (e + 1) := Int.dvd_trans (Int.gcd_dvd_left ..) hsum
      exact Int.natCast_dvd_natCast.mp (Int.dvd_coe_gcd a1 a2)
    rw [h1] at h2
    exact Nat.dvd_one.mp h2
  -- the others are divided by g
  have ho : ∀ j, j < c.length → j ≠ l → g ∣ c[j]?.getD 0 := fun j hj hne => by
    have hm : (poured c p.1 p.2 l)[j]?.getD 0 ∈ poured c p.1 p.2 l := by
      have : j < (poured c p.1 p.2 l).length := by simp [poured]; exact hj
      rw [List.getElem?_eq_getElem this, Option.getD_some]
      exact List.getElem_mem _
    have h1 := hd _ hm
    rw [poured_at j hl2, if_neg hne, Int.add_zero] at h1
    exact dvd_cop h1 hgs
  cases e with
  | zero =>
    -- one liquid alone, another one than l
    rw [Int.pow_zero] at hs
    obtain ⟨i, hi, hi2⟩ := sum_one h hs
    have hil : i ≠ l := fun z => hne (by rw [hi2, z])
    have := ho i (by rw [h.len]; exact hi) hil
    rw [hi2, pure_at hi, if_pos rfl] at this
    exact Int.eq_one_of_dvd_one g0 this
  | succ e =>
    -- the part of l, too, by what g has in common with the whole
    have hgw : Int.gcd g p.2 = 1 := by
      have a1 : ((Int.gcd g p.2 : Nat) : Int) ∣ g := Int.gcd_dvd_left ..
      have a2 : ((Int.gcd g p.2 : Nat) : Int) ∣ p.2 := Int.gcd_dvd_right ..
      have a3 : Int.gcd ((Int.gcd g p.2 : Nat) : Int) p.1 = 1 := by
        have h2 : Int.gcd ((Int.gcd g p.2 : Nat) : Int) p.1 ∣ Int.gcd g p.1 := by
          exact Int.natCast_dvd_natCast.mp (Int.dvd_coe_gcd (Int.dvd_trans (Int.gcd_dvd_left ..) a1) (Int.gcd_dvd_right ..))
        rw [hgs] at h2
        exact Nat.dvd_one.mp h2
      have hall : ((Int.gcd g p.2 : Nat) : Int) ∣ gl 0 c := by
        refine dvd_gl c 0 (Int.dvd_zero _) fun x hx => ?_
        obtain ⟨j, hj, rfl⟩ := List.mem_iff_getElem.mp hx
        by_cases ej : j = l
        · subst ej
          have hm : (poured c p.1 p.2 j)[j]?.getD 0 ∈ poured c p.1 p.2 j := by
            have : j < (poured c p.1 p.2 j).length := by simp [poured]; exact hj
            rw [List.getElem?_eq_getElem this, Option.getD_some]
            exact List.getElem_mem _
          have h1 := Int.dvd_trans a1 (hd _ hm)
          rw [poured_at j hl2, if_pos rfl, hs] at h1
          have h2 : ((Int.gcd g p.2 : Nat) : Int) ∣ (p.2 - p.1) * p.2 ^ (e + 1) := by
            rw [Int.pow_succ]
            exact Int.dvd_trans a2 ⟨(p.2 - p.1) * p.2 ^ e, by grind⟩
          have h3 := Int.dvd_sub h1 h2
          have e1 : p.1 * c[j]?.getD 0 + (p.2 - p.1) * p.2 ^ (e + 1) - (p.2 - p.1) * p.2 ^ (e + 1) = p.1 * c[j]?.getD 0 := by omega
          rw [e1] at h3
          have := dvd_cop h3 a3
          rwa [List.getElem?_eq_getElem hj, Option.getD_some] at this
        · have := Int.dvd_trans a1 (ho j hj ej)
          rwa [List.getElem?_eq_getElem hj, Option.getD_some] at this
      rw [h.gcd] at hall
      have := Int.eq_one_of_dvd_one (by omega) hall
      omega
    have h1 := gcd_pow hgw (e + 1 + 1)
    have h2 : g ∣ ((Int.gcd g (p.2 ^ (e + 1 + 1)) : Nat) : Int) := Int.dvd_coe_gcd (Int.dvd_refl _) hsum
    rw [h1] at h2
    exact Int.eq_one_of_dvd_one g0 (by simpa using h2)
theorem plain_one {xs : List Int} (h : gl 0 xs = 1) : plain xs = xs := by unfold plain; rw [h]; simp
theorem poured_len' (x : List Int) (s w : Int) (i : Nat) : (poured x s w i).length = x.length := by simp [poured]
theorem ext_at {xs ys : List Int} (hl : xs.length = ys.length) (h : ∀ i, i < xs.length → xs[i]?.getD 0 = ys[i]?.getD 0) : xs = ys := by
  apply List.ext_getElem hl
  intro i h1 h2
  have := h i h1
  rwa [List.getElem?_eq_getElem h1, List.getElem?_eq_getElem h2] at this
theorem back_at {p : Int × Int} {c : List Int} {l : Nat} (i : Nat) (h : l < c.length) : (back p c l)[i]?.getD 0 = p.2 * (c[i]?.getD 0) - if i = l then (p.2 - p.1) * c.sum else 0 := by
  unfold back
  by_cases e : i = l
  · subst e
    rw [if_pos rfl, List.getElem?_set_self (by simpa using h)]; rfl
  · rw [if_neg e, List.getElem?_set_ne (by omega), List.getElem?_map]
    cases c[i]? <;> simp
/-- a step, and the step back -/
theorem back_poured {p : Int × Int} {c : List Int} {l : Nat} (hl : l < c.length) : back p (poured c p.1 p.2 l) l = c.map (p.2 * p.1 * ·) := by
  have hpl : l < (poured c p.1 p.2 l).length := by rw [poured_len']; exact hl
  refine ext_at (by rw [back_len, poured_len']; simp) fun i hi => ?_
  rw [back_at i hpl, poured_at i hl, poured_sum hl]
  rw [back_len, poured_len'] at hi
  have e : (c.map (p.2 * p.1 * ·))[i]?.getD 0 = p.2 * p.1 * (c[i]?.getD 0) := by
    rw [List.getElem?_map, List.getElem?_eq_getElem hi]; rfl
  rw [e]
  split <;> grind
section
variable {p : Int × Int} {m B l e : Nat} {c : List Int}
theorem step_facts (hp : Kp p) (h : Ct m B c) (hl : l < m) (hs : c.sum = p.2 ^ e) (hne : c ≠ pureC m l) : stepC c p.1 p.2 l = poured c p.1 p.2 l ∧ (stepC c p.1 p.2 l).sum = p.2 ^ (e + 1) ∧ undC p (stepC c p.1 p.2 l) l = c ∧ leastI p (stepC c p.1 p.2 l).sum = (p.2 - p.1) * c.sum := by
  obtain ⟨k1, k2, k3, k4⟩ := id hp
  have hl2 : l < c.length := by rw [h.len]; exact hl
  have e1 : stepC c p.1 p.2 l = poured c p.1 p.2 l := plain_one (step_raw hp h hl hs hne)
  have e2 : (stepC c p.1 p.2 l).sum = p.2 ^ (e + 1) := by rw [e1, poured_sum hl2, hs, Int.pow_succ]; grind
  refine ⟨e1, e2, ?_, ?_⟩
  · unfold undC
    rw [e1, back_poured hl2, plain_times h (Int.mul_pos (by omega) (by omega))]
  · unfold leastI
    rw [e2, Int.pow_succ, Int.mul_ediv_cancel _ (by omega), hs]
/-- the last liquid is told, but where one half is kept of one liquid alone -/
theorem step_last (hp : Kp p) (h : Ct m B c) (hl : l < m) (hs : c.sum = p.2 ^ e) (hne : c ≠ pureC m l) (hx : p = (1, 2) → 1 ≤ e) : lastN p (stepC c p.1 p.2 l) = [l] := by
  obtain ⟨e1, e2, e3, e4⟩ := step_facts hp h hl hs hne
  obtain ⟨k1, k2, k3, k4⟩ := id hp
  have hl2 : l < c.length := by rw [h.len]; exact hl
  have hlen : (stepC c p.1 p.2 l).length = m := by rw [e1, poured_len', h.len]
  have hat : ∀ i, (stepC c p.1 p.2 l)[i]?.getD 0 = p.1 * (c[i]?.getD 0) + if i = l then (p.2 - p.1) * c.sum else 0 := fun i => by rw [e1, poured_at i hl2]
  have hpos := h.pos
  have one : ∀ f : Nat → Bool, f l = true → (∀ i, i < m → i ≠ l → f i = false) → (List.range m).filter f = [l] := fun f h1 h2 => by
    have h3 : (List.range m).filter f = (List.range m).filter (fun i => decide (i = l)) := by
      refine List.filter_congr fun i hi => ?_
      by_cases e : i = l
      · subst e; rw [h1]; simp
      · rw [h2 i (List.mem_range.mp hi) e]; simp [e]
    rw [h3]
    have key : ∀ n, (List.range n).filter (fun i => decide (i = l)) = if l < n then [l] else [] := fun n => by
      induction n with
      | zero => simp
      | succ n ih =>
        rw [List.range_succ, List.filter_append, ih]
        by_cases a : l < n
        · rw [if_pos a, if_pos (by omega)]
          have : ¬ n = l := by omega
          simp [this]
        · rw [if_neg a]
          by_cases b : n = l
          · subst b; simp
          · rw [if_neg (by omega)]; simp [b]
    rw [key, if_pos hl]
  have hle : leastI p (stepC c p.1 p.2 l).sum ≤ (stepC c p.1 p.2 l)[l]?.getD 0 := by
    rw [e4, hat l, if_pos rfl]
    have := Int.mul_nonneg (show 0 ≤ p.1 by omega) (at_nn h hl).1
    omega
  unfold lastN oddN
  rw [hlen]
  by_cases h1 : 1 < p.1
  · rw [if_pos h1]
    have ho : (List.range m).filter (fun i => decide ((stepC c p.1 p.2 l)[i]?.getD 0 % p.1 ≠ 0)) = [l] := one _ (by
      refine decide_eq_true fun hz => ?_
      rw [hat l, if_pos rfl] at hz
      have h2 : p.1 ∣ p.1 * c[l]?.getD 0 + (p.2 - p.1) * c.sum := Int.dvd_of_emod_eq_zero hz
      have h3 : p.1 ∣ p.2 * p.2 ^ e := by
        have := Int.dvd_sub h2 ⟨c[l]?.getD 0 - c.sum, rfl⟩
        have e5 : p.1 * c[l]?.getD 0 + (p.2 - p.1) * c.sum - p.1 * (c[l]?.getD 0 - c.sum) = p.2 * p.2 ^ e := by rw [← hs]; grind
        rwa [e5] at this
      have h4 : p.1 ∣ p.2 ^ (e + 1) * 1 := by rw [Int.mul_one, Int.pow_succ, Int.mul_comm]; exact h3
      have h5 := dvd_cop h4 (gcd_pow k4 (e + 1))
      have := Int.le_of_dvd (by decide) h5
      omega) fun i hi hne => by
      refine decide_eq_false fun hz => hz ?_
      rw [hat i, if_neg hne, Int.add_zero]
      exact Int.emod_eq_zero_of_dvd (Int.dvd_mul_right _ _)
    rw [ho]
    simp [hle]
  · rw [if_neg h1]
    have h1' : p.1 = 1 := by omega
    refine one _ (decide_eq_true hle) fun i hi hne => ?_
    refine decide_eq_false fun hz => ?_
    rw [e4, hat i, if_neg hne, h1'] at hz
    obtain ⟨b0, b1⟩ := at_nn h hi
    by_cases h2 : p.2 = 2
    · rw [h2] at hz
      have hall := all_in h hi (by omega)
      have he := hx (by rw [← h1', ← h2])
      rw [hall, pure_sum hi, h2] at hs
      obtain ⟨e', rfl⟩ : ∃ e', e = e' + 1 := ⟨e - 1, by omega⟩
      rw [Int.pow_succ] at hs
      omega
    · have : 2 * c.sum ≤ (p.2 - 1) * c.sum := Int.mul_le_mul_of_nonneg_right (by omega) (by omega)
      omega
end
theorem Back.same {p : Int × Int} {c c1 c2 : List Int} {u v : List Nat} (h1 : Back p c u c1) : Back p c v c2 → u = v ∧ c1 = c2 := by
  induction h1 generalizing v c2 with
  | stop h =>
    intro h2
    cases h2 with
    | stop _ => exact ⟨rfl, rfl⟩
    | stuck a _ => exact absurd a h
    | step a _ _ => exact absurd a h
  | stuck h hn =>
    intro h2
    cases h2 with
    | stop a => exact absurd h a
    | stuck _ _ => exact ⟨rfl, rfl⟩
    | step _ b _ => rw [hn] at b; simp at b
  | step h hn _ ih =>
    intro h2
    cases h2 with
    | stop a => exact absurd h a
    | stuck _ b => rw [b] at hn; simp at hn
    | step _ b q =>
      rw [hn] at b
      cases b
      obtain ⟨rfl, rfl⟩ := ih q
      exact ⟨rfl, rfl⟩
theorem pure_inj {m i j : Nat} (hi : i < m) (h : pureC m i = pureC m j) : i = j := by
  have e : (pureC m i)[i]?.getD 0 = (pureC m j)[i]?.getD 0 := by rw [h]
  rw [pure_at hi, pure_at hi, if_pos rfl] at e
  by_cases h : i = j
  · exact h
  · rw [if_neg h] at e; omega
theorem Sh.same {p : Int × Int} {m : Nat} {c : List Int} {h h' : Option (Nat × List Nat)} (a : Sh p m c h) (b : Sh p m c h') : h = h' := by
  cases a with
  | some a1 a2 =>
    cases b with
    | some b1 b2 =>
      obtain ⟨rfl, e⟩ := a1.same b1
      rw [pure_inj a2 e]
    | none b1 b2 =>
      obtain ⟨_, rfl⟩ := a1.same b1
      exact absurd (pure_sum a2) b2
  | none a1 a2 =>
    cases b with
    | some b1 b2 =>
      obtain ⟨_, rfl⟩ := a1.same b1
      exact absurd (pure_sum b2) a2
    | none b1 b2 => rfl
theorem last_range (f : Nat → Bool) : ∀ (m x : Nat), x < m → f x = true → (∀ y, x < y → y < m → f y = false) → ((List.range m).filter f).getLast? = some x
  | 0, x, h, _, _ => by omega
  | m + 1, x, h, hx, hn => by
    rw [List.range_succ, List.filter_append]
    by_cases e : x = m
    · subst e
      simp [hx]
    · have := hn m (by omega) (by omega)
      simp only [List.filter_cons, this, Bool.false_eq_true, if_false, List.filter_nil, List.append_nil]
      exact last_range f m x (by omega) hx fun y h1 h2 => hn y h1 (by omega)
theorem half_swap {m i l : Nat} (hi : i < m) (hl : l < m) (hne : i ≠ l) : stepC (pureC m i) 1 2 l = stepC (pureC m l) 1 2 i := by
  unfold stepC
  congr 1
  have l1 : (pureC m i).length = m := by simp [pureC]
  have l2 : (pureC m l).length = m := by simp [pureC]
  refine ext_at (by rw [poured_len', poured_len', l1, l2]) fun j hj => ?_
  rw [poured_len', l1] at hj
  rw [poured_at j (by rw [l1]; exact hl), poured_at j (by rw [l2]; exact hi), pure_at hj, pure_at hj, pure_sum hi, pure_sum hl]
  by_cases a : j = i
  · have : ¬ j = l := by omega
    rw [if_pos a, if_neg this, if_neg this, if_pos a]
    rfl
  · by_cases b : j = l
    · rw [if_neg a, if_pos b, if_pos b, if_neg a]
      rfl
    · rw [if_neg a, if_neg b, if_neg b, if_neg a]
/-- start and first top-up, as they are told -/
def swp (p : Int × Int) (i l : Nat) : Nat × Nat := if p = (1, 2) ∧ l < i then (l, i) else (i, l)
section
variable {p : Int × Int} {m : Nat}
theorem pure_ne {i l : Nat} (hi : i < m) (h : i ≠ l) : pureC m i ≠ pureC m l := fun e => h (pure_inj hi e)
theorem half_last {i l : Nat} (hi : i < m) (hl : l < m) (h : i < l) : (lastN (1, 2) (stepC (pureC m i) 1 2 l)).getLast? = some l := by
  have hp : Kp (1, 2) := kp (by decide)
  obtain ⟨e1, e2, e3, e4⟩ := step_facts (p := (1, 2)) (e := 0) hp (pure_ct hi) hl (by rw [pure_sum hi]; rfl) (pure_ne hi (by omega))
  simp only at e1 e2 e3 e4
  have l1 : (pureC m i).length = m := by simp [pureC]
  have hlen : (stepC (pureC m i) 1 2 l).length = m := by rw [e1, poured_len', l1]
  unfold lastN
  rw [hlen, if_neg (by decide), e4, pure_sum hi]
  have hat : ∀ j, j < m → (stepC (pureC m i) 1 2 l)[j]?.getD 0 = (if j = i then 1 else 0) + if j = l then 1 else 0 := fun j hj => by
    rw [e1, poured_at j (by rw [l1]; exact hl), pure_at hj, pure_sum hi]
    simp
  refine last_range _ m l hl ?_ fun y h1 h2 => ?_
  · rw [hat l hl, if_pos rfl]
    refine decide_eq_true ?_
    split <;> omega
  · rw [hat y h2, if_neg (by omega), if_neg (by omega)]
    rfl
/-- the first top-up of another liquid -/
theorem back_one {i l : Nat} (hp : Kp p) (hm : m ≤ 8) (hi : i < m) (hl : l < m) (h : i ≠ l) : Back p (stepC (pureC m i) p.1 p.2 l) [(swp p i l).2] (pureC m (swp p i l).1) := by
  have s1 : (pureC m i).sum = p.2 ^ 0 := by rw [pure_sum hi, Int.pow_zero]
  obtain ⟨e1, e2, e3, e4⟩ := step_facts hp (pure_ct hi) hl s1 (pure_ne hi h)
  have hw : 2 ≤ p.2 := by have := hp.1; have := hp.2.1; omega
  have hcan : Can p (stepC (pureC m i) p.1 p.2 l) := ⟨by rw [e2, Int.pow_succ, Int.pow_zero, Int.one_mul]; omega, 1, by rw [e2]⟩
  have hstop : ∀ j, j < m → Back p (pureC m j) [] (pureC m j) := fun j hj => .stop fun z => by have := z.1; rw [pure_sum hj] at this; omega
  unfold swp
  by_cases hp2 : p = (1, 2)
  · by_cases hlt : l < i
    · rw [if_pos ⟨hp2, hlt⟩]
      have s2 : (pureC m l).sum = p.2 ^ 0 := by rw [pure_sum hl, Int.pow_zero]
      obtain ⟨_, _, f3, _⟩ := step_facts hp (pure_ct hl) hi s2 (pure_ne hl (fun z => h z.symm))
      refine .step hcan (l := i) ?_ ?_
      · subst hp2
        show (lastN (1, 2) (stepC (pureC m i) 1 2 l)).getLast? = some i
        rw [half_swap hi hl h]
        exact half_last hl hi hlt
      · have : stepC (pureC m i) p.1 p.2 l = stepC (pureC m l) p.1 p.2 i := by rw [hp2]; exact half_swap hi hl h
        rw [this, f3]
        exact hstop l hl
    · rw [if_neg (fun z => hlt z.2)]
      refine .step hcan (l := l) ?_ ?_
      · subst hp2
        exact half_last hi hl (by omega)
      · rw [e3]; exact hstop i hi
  · rw [if_neg (fun z => hp2 z.1)]
    refine .step hcan (l := l) ?_ ?_
    · rw [step_last hp (pure_ct hi) hl s1 (pure_ne hi h) (fun z => absurd z hp2)]; rfl
    · rw [e3]; exact hstop i hi
theorem lastBy_snoc : ∀ (qs : List ((Int × Int) × Nat)) (c : List Int) (q : (Int × Int) × Nat), lastBy c (qs ++ [q]) = stepC (lastBy c qs) q.1.1 q.1.2 q.2
  | [], c, q => rfl
  | _ :: qs, c, q => by rw [List.cons_append, lastBy, lastBy_snoc qs]; rfl
theorem byOne_snoc (p : Int × Int) : ∀ (is : List Nat) (i : Nat), byOne p (is ++ [i]) = byOne p is ++ [(p, i)]
  | [], i => by simp [byOne]
  | j :: is, i => by rw [List.cons_append, byOne_cons, byOne_snoc p is i, byOne_cons, List.cons_append]
/-- .. and the rest of the row -/
theorem back_rest {i l : Nat} (hp : Kp p) (hm : m ≤ 8) (hi : i < m) (hl : l < m) (h : i ≠ l) : ∀ (n : Nat) (rest : List Nat), rest.length = n → (∀ j ∈ rest, j < m) →
    (∃ B, Ct m B (lastBy (stepC (pureC m i) p.1 p.2 l) (byOne p rest))) ∧ (lastBy (stepC (pureC m i) p.1 p.2 l) (byOne p rest)).sum = p.2 ^ (rest.length + 1) ∧
      Back p (lastBy (stepC (pureC m i) p.1 p.2 l) (byOne p rest)) (rest.reverse ++ [(swp p i l).2]) (pureC m (swp p i l).1) := fun n => by
  obtain ⟨k1, k2, k3, k4⟩ := id hp
  induction n with
  | zero =>
    intro rest hr _
    have : rest = [] := List.length_eq_zero_iff.mp hr
    subst this
    obtain ⟨e1, e2, e3, e4⟩ := step_facts hp (pure_ct hi) hl (e := 0) (by rw [pure_sum hi, Int.pow_zero]) (pure_ne hi h)
    exact ⟨⟨_, step_ct (pure_ct hi) hm hl k1 k2 k3⟩, e2, back_one hp hm hi hl h⟩
  | succ n ih =>
    intro rest hr hj
    obtain ⟨r, x, rfl⟩ : ∃ r x, rest = r ++ [x] := ⟨rest.dropLast, rest.getLast (by intro z; rw [z] at hr; simp at hr), (List.dropLast_concat_getLast _).symm⟩
    have hx : x < m := hj x (by simp)
    obtain ⟨⟨B, a1⟩, a2, a3⟩ := ih r (by simpa using hr) fun y hy => hj y (by simp [hy])
    rw [byOne_snoc, lastBy_snoc]
    simp only
    generalize hc : lastBy (stepC (pureC m i) p.1 p.2 l) (byOne p r) = c at *
    have hbig : 1 < p.2 ^ (r.length + 1) := by
      have : 0 < p.2 ^ r.length := Int.pow_pos (by omega)
      rw [Int.pow_succ]
      have := Int.mul_le_mul (show 1 ≤ p.2 ^ r.length by omega) (show 2 ≤ p.2 by omega) (by omega) (by omega)
      omega
    have hne : c ≠ pureC m x := fun z => by rw [z, pure_sum hx] at a2; omega
    obtain ⟨e1, e2, e3, e4⟩ := step_facts hp a1 hx a2 hne
    refine ⟨⟨_, step_ct a1 hm hx k1 k2 k3⟩, by rw [e2, List.length_append]; rfl, ?_⟩
    rw [List.reverse_append, List.reverse_singleton, List.singleton_append, List.cons_append]
    refine .step (l := x) ⟨?_, _, e2⟩ ?_ ?_
    · rw [e2, Int.pow_succ]
      have := Int.mul_le_mul (show 2 ≤ p.2 ^ (r.length + 1) by omega) (show 2 ≤ p.2 by omega) (by omega) (by omega)
      omega
    · rw [step_last hp a1 hx a2 hne (fun _ => by omega)]; rfl
    · rw [e3]; exact a3
theorem step_self {i : Nat} (hp : Kp p) (hi : i < m) : stepC (pureC m i) p.1 p.2 i = pureC m i := by
  have l1 : (pureC m i).length = m := by simp [pureC]
  have e : poured (pureC m i) p.1 p.2 i = (pureC m i).map (p.2 * ·) := by
    refine ext_at (by rw [poured_len']; simp) fun j hj => ?_
    rw [poured_len', l1] at hj
    rw [poured_at j (by rw [l1]; exact hi), pure_at hj, pure_sum hi]
    have e : ((pureC m i).map (p.2 * ·))[j]?.getD 0 = p.2 * (if j = i then 1 else 0) := by
      rw [List.getElem?_map, List.getElem?_eq_getElem (by rw [l1]; exact hj)]
      have := pure_at (m := m) (i := i) hj
      rw [List.getElem?_eq_getElem (by rw [l1]; exact hj), Option.getD_some] at this
      simp [this]
    rw [e]
    split
    · omega
    · simp
  unfold stepC
  rw [e, plain_times (pure_ct hi) (by have := hp.1; have := hp.2.1; omega)]
/-- the row without the first top-ups of the start itself -/
def strip (i : Nat) : List Nat → List Nat
  | [] => []
  | j :: js => if j = i then strip i js else j :: js
theorem strip_eq (i : Nat) : ∀ js : List Nat, ∃ k, js = List.replicate k i ++ strip i js ∧ k + (strip i js).length = js.length
  | [] => ⟨0, rfl, rfl⟩
  | j :: js => by
    by_cases e : j = i
    · obtain ⟨k, h, h2⟩ := strip_eq i js
      refine ⟨k + 1, ?_, ?_⟩
      · rw [strip, if_pos e, List.replicate_succ, List.cons_append, ← h, e]
      · rw [strip, if_pos e, List.length_cons]; omega
    · exact ⟨0, by simp [strip, e], by simp [strip, e]⟩
theorem strip_head (i : Nat) : ∀ js : List Nat, ∀ l r, strip i js = l :: r → l ≠ i
  | [], l, r, h => by simp [strip] at h
  | j :: js, l, r, h => by
    by_cases e : j = i
    · rw [strip, if_pos e] at h; exact strip_head i js l r h
    · rw [strip, if_neg e] at h
      cases h; exact e
theorem last_strip {i : Nat} (hp : Kp p) (hi : i < m) : ∀ js : List Nat, lastBy (pureC m i) (byOne p js) = lastBy (pureC m i) (byOne p (strip i js))
  | [] => rfl
  | j :: js => by
    by_cases e : j = i
    · rw [strip, if_pos e, byOne_cons, lastBy, e]
      simp only
      rw [step_self hp hi]
      exact last_strip hp hi js
    · rw [strip, if_neg e]
/-- the history that is told -/
def shortOf (p : Int × Int) (i : Nat) (js : List Nat) : Nat × List Nat := match strip i js with
  | [] => (i, [])
  | l :: r => ((swp p i l).1, (swp p i l).2 :: r)
theorem sh_led {i : Nat} {js : List Nat} (hp : Kp p) (hm : m ≤ 8) (hi : i < m) (hj : ∀ j ∈ js, j < m) : Sh p m (lastBy (pureC m i) (byOne p js)) (some (shortOf p i js)) := by
  rw [last_strip hp hi js]
  obtain ⟨k, e1, e2⟩ := strip_eq i js
  have hmem : ∀ j ∈ strip i js, j < m := fun j h => hj j (by rw [e1]; simp [h])
  unfold shortOf
  cases hs : strip i js with
  | nil =>
    simp only
    have hb : Back p (pureC m i) [] (pureC m i) := .stop fun z => by have := z.1; rw [pure_sum hi] at this; omega
    exact .some (u := []) hb hi
  | cons l r =>
    simp only
    rw [hs] at hmem
    have hl := hmem l List.mem_cons_self
    obtain ⟨_, _, h3⟩ := back_rest hp hm hi hl (fun z => strip_head i js l r hs z.symm) r.length r rfl fun j h => hmem j (List.mem_cons_of_mem _ h)
    have hi2 : (swp p i l).1 < m := by
      unfold swp
      split
      · exact hl
      · exact hi
    have := Sh.some (p := p) (m := m) h3 hi2
    rw [List.reverse_append, List.reverse_reverse] at this
    exact this
/-- the drawn history is among those of its number of top-ups -/
theorem all_led {i : Nat} {js : List Nat} : (i, js) ∈ allOf js.length (shs p (some (shortOf p i js))) := by
  obtain ⟨k, e1, e2⟩ := strip_eq i js
  have key : ∀ hs : List (Nat × List Nat), (i, strip i js) ∈ hs → (i, js) ∈ allOf js.length hs := fun hs h => by
    unfold allOf
    refine List.mem_map.mpr ⟨(i, strip i js), List.mem_filter.mpr ⟨h, by simp; omega⟩, ?_⟩
    simp only
    rw [show js.length - (strip i js).length = k by omega, ← e1]
  refine key _ ?_
  unfold shortOf
  cases hs : strip i js with
  | nil => unfold shs; simp
  | cons l r =>
    unfold shs swp
    by_cases hp2 : p = (1, 2)
    · by_cases hlt : l < i
      · simp [hp2, hlt]
      · simp [hp2, hlt]
    · simp [hp2]
end
/-! limits have no history -/
theorem T_ndvd {s w : Int} (s1 : 1 ≤ s) (sw : s < w) (g : Int.gcd s w = 1) : ∀ js : List Nat, js ≠ [] → ¬ w ∣ T s w 0 js
  | [], h => absurd rfl h
  | j :: js, _ => fun hd => by
    rw [T, T_shift, Int.pow_zero, Int.mul_one] at hd
    have := Int.dvd_sub hd (Int.dvd_mul_right w (T s w 0 js))
    have e : s ^ js.length + w * T s w 0 js - w * T s w 0 js = s ^ js.length := by omega
    rw [e] at this
    exact pow_not_dvd s1 sw g _ this
section
variable {p : Int × Int} {m : Nat} {is : List Nat}
theorem lim_ncan (hp : Kp p) (hi : ∀ i ∈ is, i < m) (h0 : is ≠ []) (hl : is.length ≤ 60) : ¬ Can p (limC p m is) := fun hc => by
  have h1 := can_dvd hp hc
  have hm := plain_mul (xs := limV p m is) fun x hx => (limV_bd hp hl x hx).1
  have h2 := congrArg List.sum hm
  rw [sum_mul, limV_sum p hi] at h2
  have h3 : (limC p m is).sum ∣ T p.1 p.2 0 is := ⟨gl 0 (limV p m is), by rw [← h2]; unfold limC; grind⟩
  exact T_ndvd hp.1 hp.2.1 hp.2.2.2 is h0 (Int.dvd_trans h1 h3)
theorem lim_one {a : Nat} (hp : Kp p) (ha : a < m) : limC p m [a] = pureC m a := by
  have hi : ∀ i ∈ [a], i < m := fun i h => by rw [List.mem_singleton] at h; omega
  have e : limV p m [a] = pureC m a := by
    have l1 : (limV p m [a]).length = m := by simp [limV]
    refine ext_at (by rw [l1]; simp [pureC]) fun j hj => ?_
    rw [l1] at hj
    rw [limV_at p [a] hj, pure_at hj]
    simp [V]
  unfold limC
  rw [e]
  exact (pure_ct ha).plain
theorem root_one (a : Nat) : root [a] = [a] := by
  unfold root
  simp [rootL, isRoot, rep]
/-- one liquid alone is the limit of its row alone -/
theorem lim_root (hp : Kp p) (hi : ∀ i ∈ is, i < m) (h0 : is ≠ []) (hl : is.length ≤ 60) : (limC p m is).sum = 1 ↔ (root is).length = 1 := by
  have hpos : 0 < is.length := List.length_pos_iff.mpr h0
  constructor
  · intro h
    obtain ⟨i, h1, h2⟩ := sum_one (lim_ct hp hi h0 hl) h
    have hi1 : ∀ j ∈ [i], j < m := fun j h => by rw [List.mem_singleton] at h; omega
    have := root_of_lim hp hi hi1 hpos (by simp) hl (by simp) (by rw [h2, lim_one hp h1])
    rw [this, root_one]; rfl
  · intro h
    obtain ⟨a, ha⟩ := List.length_eq_one_iff.mp h
    obtain ⟨l, a1, a2, a3, a4, a5, a6, _⟩ := root_spec hpos
    have hmem : a ∈ is := by
      have : a ∈ root is := by rw [ha]; simp
      rw [a1] at this
      exact List.mem_of_mem_take this
    have ham := hi a hmem
    have hi1 : ∀ j ∈ [a], j < m := fun j h => by rw [List.mem_singleton] at h; omega
    have := lim_of_root hp hi hi1 hpos (by simp) hl (by simp) (by rw [ha, root_one])
    rw [this, lim_one hp ham, pure_sum ham]
theorem sh_lim_h (hp : Kp p) (hi : ∀ i ∈ is, i < m) (h0 : is ≠ []) (hl : is.length ≤ 60) : Back p (limC p m is) [] (limC p m is) := .stop (lim_ncan hp hi h0 hl)
theorem hist_lim (hp : Kp p) (hi : ∀ i ∈ is, i < m) (h0 : is ≠ []) (hl : is.length ≤ 60) {h : Option (Nat × List Nat)} (hs : Sh p m (limC p m is) h) : (h = none) ↔ ¬ (limC p m is).sum = 1 := by
  have hb := sh_lim_h hp hi h0 hl
  cases hs with
  | some a1 a2 =>
    obtain ⟨_, e⟩ := hb.same a1
    rw [e, pure_sum a2]; simp
  | none a1 a2 =>
    obtain ⟨_, e⟩ := hb.same a1
    rw [← e] at a2
    simp [a2]
/-! distances of mixtures, and of what went round -/
theorem apart_scale {k : Int} (hk : 0 ≤ k) (x d : List Int) : apart (x.map (k * ·)) d = k * apart x d := by
  unfold apart
  rw [← maxL_scale hk, sum_mul]
  congr 1
  rw [List.map_map, List.zip_map_left, List.map_map]
  refine List.map_congr_left fun q hq => ?_
  simp only [Function.comp_apply, Prod.map_fst, Prod.map_snd, id_eq]
  rw [← absI_mul hk]
  congr 1
  unfold dif
  simp only [Prod.map_fst, Prod.map_snd, id_eq]
  grind
theorem dist_plain {y d : List Int} (hn : ∀ x ∈ y, 0 ≤ x) (hy : 0 < y.sum) (hd : 0 < d.sum) : red (apart (plain y) d) ((plain y).sum * d.sum) = red (apart y d) (y.sum * d.sum) := by
  obtain ⟨p, g0⟩ := plain_sum_pos hn hy
  have hm := plain_mul hn
  have e1 : apart y d = gl 0 y * apart (plain y) d := by
    conv => lhs; rw [← hm]
    exact apart_scale (by omega) _ _
  have e2 : y.sum = gl 0 y * (plain y).sum := by
    conv => lhs; rw [← hm]
    rw [sum_mul]
  rw [e1, e2, Int.mul_assoc, red_scale g0]
end
theorem und_append (p : Int × Int) : ∀ (a b : List Nat) (x : List Int), und p x (a ++ b) = und p (und p x a) b
  | [], b, x => rfl
  | i :: a, b, x => by rw [List.cons_append, und, und_append p a b]; rfl
theorem rep_add (r : List Nat) : ∀ t : Nat, rep r (t + 1) = rep r t ++ r
  | 0 => by simp [rep]
  | t + 1 => by
    have h := rep_add r t
    rw [rep_succ, h, ← List.append_assoc, ← rep_succ, h]
theorem rnd_rep (p : Int × Int) (is : List Nat) (x : List Int) : ∀ t : Nat, rnd p is x t = und p x (rep is t)
  | 0 => rfl
  | t + 1 => by rw [rnd, rnd_rep p is x t, rep_add, und_append]
section
variable {p : Int × Int} {m B : Nat} {is : List Nat} {c : List Int}
/-- so many rounds shrink the distance by powers -/
theorem dist_rounds (hp : Kp p) (hm : m ≤ 8) (hi : ∀ i ∈ is, i < m) (h0 : is ≠ []) (hl : is.length ≤ 60) (hc : Ct m B c) (t : Nat) :
    red (dA m (lastBy c (byOne p (rep is t))) p is) (dB m (lastBy c (byOne p (rep is t))) p is) = red (dA m c p is * p.1 ^ (is.length * t)) (dB m c p is * p.2 ^ (is.length * t)) := by
  have hri : ∀ i ∈ rep is t, i < m := fun i h => hi i (rep_mem h)
  have e := und_plain hm hp (rep is t) c B hri hc 1 (by omega)
  rw [show c.map ((1 : Int) * ·) = c by simp, ← rnd_rep] at e
  obtain ⟨f1, f2, f3, f4⟩ := rnd_facts hp hm hi h0 hl hc.len (fun y hy => (hc.bd y hy).1) t
  have hd := lim_ct hp hi h0 hl
  have hw : 0 < p.2 := by have := hp.1; have := hp.2.1; omega
  unfold dA dB
  rw [← e, dist_plain f2 (by rw [f3]; exact Int.mul_pos (Int.pow_pos hw) hc.pos) hd.pos, f3, f4]
  congr 1
  · rw [Int.mul_comm]
  · grind
end
/-- a mixture of one liquid alone and the limit -/
theorem mix_dist {p : Int × Int} {m i : Nat} {is : List Nat} (hp : Kp p) (hm : m ≤ 8) (hi : ∀ i ∈ is, i < m) (h0 : is ≠ []) (hl : is.length ≤ 60) (hi2 : i < m) (hx : Mx m 430 [pureC m i, limC p m is] [2, 3]) :
    red (dA m (plain (mixF m [pureC m i, limC p m is] [2, 3])) p is) (dB m (plain (mixF m [pureC m i, limC p m is] [2, 3])) p is) = red (2 * dA m (pureC m i) p is) (5 * dB m (pureC m i) p is) := by
  have hd := lim_ct hp hi h0 hl
  unfold dA dB
  generalize hD : limC p m is = d at *
  have l1 : (pureC m i).length = m := by simp [pureC]
  have wh1 : wh 1 [pureC m i, d] = d.sum := by simp [wh, pure_sum hi2]
  have hat : ∀ j, j < m → (mixF m [pureC m i, d] [2, 3])[j]?.getD 0 = 2 * d.sum * (pureC m i)[j]?.getD 0 + 3 * d[j]?.getD 0 := fun j hj => by
    have := mixL_at (W := wh 1 [pureC m i, d]) (m := m) j ([pureC m i, d].zip [2, 3]) (List.replicate m 0) (by simp) fun q hq => (hx.zip q hq).1.len
    unfold mixF
    rw [this, wh1]
    simp only [List.zip_cons_cons, List.zip_nil_right, dueS, List.map_cons, List.map_nil, List.sum_cons, List.sum_nil]
    rw [pure_sum hi2, Int.ediv_self (by have := hd.pos; omega), Int.ediv_one]
    simp [hj]
    grind
  have hsum : (mixF m [pureC m i, d] [2, 3]).sum = 5 * d.sum := by
    have := mixL_sum (W := wh 1 [pureC m i, d]) (m := m) ([pureC m i, d].zip [2, 3]) (List.replicate m 0) (by simp) fun q hq => by
      rw [wh1]
      simp only [List.zip_cons_cons, List.zip_nil_right, List.mem_cons, List.not_mem_nil, or_false] at hq
      rcases hq with rfl | rfl
      · simp only; rw [pure_sum hi2]; exact ⟨l1, Int.one_dvd _, by decide⟩
      · exact ⟨hd.len, Int.dvd_refl _, hd.pos⟩
    unfold mixF
    rw [this, wh1]
    simp
  have hlen : (mixF m [pureC m i, d] [2, 3]).length = m := hx.len
  rw [dist_plain (fun x hx2 => (hx.bd x hx2).1) hx.pos hd.pos, hsum, pure_sum hi2]
  have e : apart (mixF m [pureC m i, d] [2, 3]) d = d.sum * (2 * apart (pureC m i) d) := by
    unfold apart
    rw [← maxL_scale (by omega), ← maxL_scale (by have := hd.pos; omega), List.map_map, List.map_map]
    congr 1
    rw [zip_at (xs := mixF m [pureC m i, d] [2, 3]) (ys := d) _ (fun j => d.sum * (2 * absI (dif d.sum 1 ((pureC m i)[j]?.getD 0, d[j]?.getD 0)))) (by rw [hlen, hd.len]) fun j hj => ?_, zip_at (xs := pureC m i) (ys := d) _ (fun j => d.sum * (2 * absI (dif d.sum 1 ((pureC m i)[j]?.getD 0, d[j]?.getD 0)))) (by rw [l1, hd.len]) fun j hj => ?_, hlen, l1]
    · simp only [Function.comp_apply, pure_sum hi2]
    · rw [hlen] at hj
      rw [hat j hj, hsum, ← absI_mul (by omega), ← absI_mul (by have := hd.pos; omega)]
      congr 1
      unfold dif
      simp only
      grind
  rw [e, show 5 * d.sum * d.sum = d.sum * (5 * (1 * d.sum)) by grind, red_scale hd.pos]
/-! calls of histories, in any store -/
def pdH (h : Nat × List Nat) : PyData := .tuple [.int (h.1 : Int), .list (h.2.map fun i : Nat => .int (i : Int))]
theorem Pl_dH (h : Nat × List Nat) : Pl 2 (dH h) (pdH h) := by
  unfold dH pdH
  refine .tup (by simp) fun i x p h1 h2 => ?_
  match i with
  | 0 =>
    simp at h1 h2
    subst h1; subst h2
    exact .int 1 _
  | 1 =>
    simp at h1 h2
    subst h1; subst h2
    exact Pl_ints (fun i : Nat => (i : Int)) h.2
  | i + 2 => simp at h1
theorem Pl_dHs (hs : List (Nat × List Nat)) : Pl 3 (.lst (hs.map dH)) (.list (hs.map pdH)) :=
  .lst (by simp) fun i x p h1 h2 => by
    rw [List.getElem?_map, Option.map_eq_some_iff] at h1 h2
    obtain ⟨a, e1, rfl⟩ := h1
    obtain ⟨b, e2, rfl⟩ := h2
    rw [e1] at e2
    cases e2
    exact Pl_dH a
theorem eqv_pdH (a b : Nat × List Nat) : PyData.eqv (pdH a) (pdH b) = decide (a = b) := by
  obtain ⟨i, r⟩ := a
  obtain ⟨j, s⟩ := b
  have e : PyData.eqvAll (r.map fun i : Nat => PyData.int (i : Int)) (s.map fun i : Nat => PyData.int (i : Int)) = decide (r = s) := by
    have := eqvAll_ints (r.map fun i : Nat => (i : Int)) (s.map fun i : Nat => (i : Int))
    rw [List.map_map, List.map_map] at this
    rw [show decide (r = s) = decide (r.map (fun i : Nat => (i : Int)) = s.map (fun i : Nat => (i : Int))) from decide_eq_decide.mpr cast_inj.symm, ← this]
    rfl
  simp only [pdH, PyData.eqv, PyData.eqvAll, e, Prod.mk.injEq]
  by_cases h1 : i = j
  · by_cases h2 : r = s <;> simp [h1, h2]
  · have h3 : ¬ (i : Int) = (j : Int) := by omega
    simp [h1, h3]
theorem eqv_sym_pdH (a b : Nat × List Nat) : PyData.eqv (pdH a) (pdH b) = PyData.eqv (pdH b) (pdH a) := by
  rw [eqv_pdH, eqv_pdH]
  exact decide_eq_decide.mpr eq_comm
theorem eqD_dH (μ : Store) (a b : Nat × List Nat) : eqD μ (dH a) (dH b) = some (decide (a = b)) := by
  rw [eqD_pl (Pl_dH a) (Pl_dH b) (by omega) (by omega), eqv_pdH]
theorem in_dH (μ : Store) (h : Nat × List Nat) (hs : List (Nat × List Nat)) : inD μ (.tup [.int (h.1 : Int), .new (dN h.2)]) (.lst (hs.map dH)) = some (decide (h ∈ hs)) := by
  have p1 := Pl_dH h
  have p2 := Pl_dHs hs
  have e0 : toP μ 40 (.tup [.int (h.1 : Int), .new (dN h.2)]) = toP μ 40 (dH h) := rfl
  unfold inD
  simp only
  rw [e0, (p1.ok (μ := μ) 40 (by omega)).1, (p2.ok (μ := μ) 40 (by omega)).1]
  simp only
  rw [p1.shaped (by omega), p2.shaped (by omega)]
  simp only [Bool.and_self, if_true]
  congr 1
  rw [List.any_map]
  apply Bool.eq_iff_iff.mpr
  rw [List.any_eq_true, decide_eq_true_iff]
  constructor
  · rintro ⟨x, hx, h2⟩
    simp only [Function.comp_apply, eqv_pdH, decide_eq_true_iff] at h2
    rw [← h2]; exact hx
  · intro hx
    exact ⟨h, hx, by simp [eqv_pdH]⟩
section
variable {p : Int × Int} {m B : Nat} {c : List Int}
end
/-! a long body, part by part -/
noncomputable def hdS : Nat → Ss → Ss → Ss
  | 0, _, t => t
  | n + 1, .cons s b, t => .cons s (hdS n b t)
  | _ + 1, .nil, t => t
noncomputable def tlS : Nat → Ss → Ss
  | 0, b => b
  | n + 1, .cons s b => tlS n b
  | _ + 1, .nil => .nil
theorem hd_tl : ∀ (n : Nat) (b : Ss), hdS n b (tlS n b) = b
  | 0, _ => rfl
  | n + 1, .cons s b => by rw [hdS, tlS, hd_tl n b]
  | _ + 1, .nil => rfl
theorem cut_body {n : Nat} {b : Ss} {ρ ρ' : Slots} {μ μ' : Store} {r : Res Fl} (h1 : ∀ t, exSs (hdS n b t) ρ μ = exSs t ρ' μ') (h2 : exSs (tlS n b) ρ' μ' = r) : exSs b ρ μ = r := by
  have := h1 (tlS n b)
  rw [hd_tl] at this
  rw [this, h2]
theorem runF_of {F : Fn} {args : List D} {ρ : Slots} {μ μ1 μ2 : Store} {d d' : D} (hl : args.length = F.ps.length) (h0 : args.map some ++ List.replicate (F.N.length - F.ps.length) none = ρ) (hb : exSs F.body ρ μ = .ok (.rt d) μ1) (hx : exitD μ.length d μ1 = .ok d' μ2) : runF F args μ = .ok d' μ2 := by
  unfold runF
  rw [if_pos hl, h0, hb]
  exact hx
def dHn (h : Nat × List Nat) : D := .tup [.int (h.1 : Int), .new (dN h.2)]
def itH : Nat → List (Nat × List Nat) → List D
  | _, [] => []
  | k, h :: hs => .tup [.int (h.1 : Int), .ptr k] :: itH (k + 1) hs
theorem itH_app (h : Nat × List Nat) : ∀ (a : List (Nat × List Nat)) (k : Nat), itH k (a ++ [h]) = itH k a ++ [.tup [.int (h.1 : Int), .ptr (k + a.length)]]
  | [], k => rfl
  | x :: a, k => by
    rw [List.cons_append, itH, itH_app h a (k + 1), itH, List.length_cons, List.cons_append, show k + 1 + a.length = k + (a.length + 1) by omega]
theorem itH_len : ∀ (a : List (Nat × List Nat)) (k : Nat), (itH k a).length = a.length
  | [], _ => rfl
  | x :: a, k => by rw [itH, List.length_cons, itH_len a, List.length_cons]
def rowsH (acc : List (Nat × List Nat)) : Store := acc.map fun h => Cell.lst (dN h.2)
theorem rowsH_len (acc : List (Nat × List Nat)) : (rowsH acc).length = acc.length := by simp [rowsH]
theorem frzL_dHn : ∀ hs : List (Nat × List Nat), frzL (hs.map dHn) = hs.map dH
  | [] => rfl
  | h :: hs => by
    rw [List.map_cons, List.map_cons, frzL, frzL_dHn hs]
    simp [dHn, dH, frz, frzL]
theorem noPtrL_dHn (n : Nat) : ∀ hs : List (Nat × List Nat), noPtrL n (hs.map dHn) = true
  | [] => rfl
  | h :: hs => by
    rw [List.map_cons, noPtrL, noPtrL_dHn n hs]
    simp [dHn]
theorem pull_H (μ : Store) : ∀ (L : List (Nat × List Nat)) (k : Nat) (seen : List Nat), (∀ (i : Nat) (h : Nat × List Nat), L[i]? = some h → μ[k + i]? = some (.lst (dN h.2))) → (∀ s ∈ seen, s < k) → pullL 0 μ seen (itH k L) = some (L.map dHn)
  | [], k, seen, _, _ => rfl
  | h :: L, k, seen, hm, hs => by
    have h0 := hm 0 h rfl
    rw [Nat.add_zero] at h0
    have hk : 0 ≤ k ∧ k ∉ seen := ⟨Nat.zero_le _, fun z => by have := hs k z; omega⟩
    have ih := pull_H μ L (k + 1) (k :: seen) (fun i d hd => by
      have := hm (i + 1) d (by simpa using hd)
      rwa [show k + (i + 1) = k + 1 + i by omega] at this) fun s hm => by
      rcases List.mem_cons.mp hm with rfl | hm
      · omega
      · have := hs s hm; omega
    have ht : pullT 0 μ seen [.int (h.1 : Int), .ptr k] = some ([.int (h.1 : Int), .new (dN h.2)], k :: seen) := by
      have n0 := noPtrL_dN 0 h.2
      simp only [pullT, noPtr, if_true, if_pos hk, h0, n0, Option.map_some]
    rw [itH, pullL, ht]
    simp only [ih, Option.map_some, List.map_cons]
    rfl
theorem exit_H (L : List (Nat × List Nat)) : exitD 0 (.ptr 0) (.lst (itH 1 L) :: rowsH L) = .ok (.new (L.map dHn)) [] := by
  have h1 : (Cell.lst (itH 1 L) :: rowsH L)[0]? = some (.lst (itH 1 L)) := rfl
  have hp := pull_H (.lst (itH 1 L) :: rowsH L) L 1 [0] (fun i h hd => by
    rw [Nat.add_comm, List.getElem?_cons_succ, rowsH, List.getElem?_map, hd]; rfl) (by simp)
  unfold exitD
  rw [if_pos (by simp), if_neg (by simp)]
  simp only [h1]
  cases L with
  | nil => simp [itH]
  | cons h L =>
    have hn : noPtrL 0 (itH 1 (h :: L)) = false := by simp [itH]
    rw [hn, hp]
    simp
/-! the bag that the later laws draw from -/
def CB (cs : List Int) (p cur st ct : Int) : Cell := .lst [.lst (dI cs), .int p, .int cur, .int st, .int ct]
def HUGE : Int := 10 ^ 600
structure BB (n : Nat) (cs : List Int) (p cur st ct : Int) : Prop where
  len : cs.length ≤ 63
  cells : ∀ x ∈ cs, 0 ≤ x ∧ x < HUGE
  p0 : 0 ≤ p
  cur0 : 0 ≤ cur ∧ cur < HUGE
  st0 : 0 ≤ st ∧ st < 2147483647
  ct0 : 0 ≤ ct ∧ ct ≤ 100 * n
theorem huge_lt : HUGE < 2 ^ 1994 := by decide +kernel
theorem huge_pos : 0 < HUGE := by decide +kernel
theorem stir_step {st ct fd : Int} {k : Nat} (h0 : 0 ≤ st) (h1 : st < 2147483647) (c0 : 0 ≤ ct) (c1 : ct ≤ 10 ^ 20) (f0 : 0 ≤ fd) (f1 : fd + 1 ≤ 2 ^ (27 * k)) (hk : k ≤ 100) (cs : List Int) (p cur : Int) (q1 q3 q4 : Option D) :
    ∃ st' fd' r4, exSs f__law_stirred_b0 [some (.ptr 0), q1, some (.int fd), q3, q4] [CB cs p cur st ct] = .ok (.nx [some (.ptr 0), q1, some (.int fd'), q3, r4]) [CB cs p cur st' (ct + 1)] ∧ 0 ≤ st' ∧ st' < 2147483647 ∧ 0 ≤ fd' ∧ fd' + 1 ≤ 2 ^ (27 * (k + 1)) := by
  have p1 : powOk st 3 = true := powOk_of 40 (by omega) (by omega) (by omega) (by omega)
  have m1 : mulOk 69621 st = true := mulOk_of 40 40 (by decide) (by omega) (by omega)
  have m2 : mulOk 1031 (ct + 1) = true := mulOk_of 40 100 (by decide) (by omega) (by omega)
  have hf : fd.natAbs < 2 ^ (27 * k + 1) := by
    have e : (2 : Nat) ^ (27 * k + 1) = 2 * 2 ^ (27 * k) := by rw [Nat.pow_succ, Nat.mul_comm]
    have e2 : ((2 ^ (27 * k) : Nat) : Int) = 2 ^ (27 * k) := by simp
    omega
  have m3 : mulOk fd 134217728 = true := mulOk_of (27 * k + 1) 40 hf (by decide) (by omega)
  have d1 : divOk 16 = true := by decide +kernel
  refine ⟨(st ^ 3 + 69621 * st + 1031 * (ct + 1) + 1) % 2147483647, fd * 134217728 + (st ^ 3 + 69621 * st + 1031 * (ct + 1) + 1) % 2147483647 / 16, some (.int (st ^ 3 + 69621 * st + 1031 * (ct + 1) + 1)), ?_, Int.emod_nonneg _ (by decide), Int.emod_lt_of_pos _ (by decide), ?_, ?_⟩
  · generalize dI cs = C at *
    simp [CB, f__law_stirred_b0, p1, m1, m2, m3, d1, L2.atI, L2.ixN]
  · have := Int.emod_nonneg (st ^ 3 + 69621 * st + 1031 * (ct + 1) + 1) (show (2147483647 : Int) ≠ 0 by decide)
    generalize (st ^ 3 + 69621 * st + 1031 * (ct + 1) + 1) % 2147483647 = y at *
    omega
  · have y0 := Int.emod_nonneg (st ^ 3 + 69621 * st + 1031 * (ct + 1) + 1) (show (2147483647 : Int) ≠ 0 by decide)
    have y1 := Int.emod_lt_of_pos (st ^ 3 + 69621 * st + 1031 * (ct + 1) + 1) (show (0 : Int) < 2147483647 by decide)
    generalize (st ^ 3 + 69621 * st + 1031 * (ct + 1) + 1) % 2147483647 = y at *
    have e : (2 : Int) ^ (27 * (k + 1)) = 134217728 * 2 ^ (27 * k) := by
      rw [show 27 * (k + 1) = 27 * k + 27 by omega, Int.pow_add]
      have : (2 : Int) ^ 27 = 134217728 := by decide
      rw [this, Int.mul_comm]
    rw [e]
    omega
theorem bits_le {w : Int} {n : Nat} (h0 : 0 ≤ w) (h : w < 2 ^ n) : PySem.Builtin.Int.intBits w ≤ n := by
  unfold PySem.Builtin.Int.intBits
  split
  · omega
  · rename_i h1
    have hne : w.natAbs ≠ 0 := by
      intro z
      apply h1
      have : w = 0 := by omega
      rw [this]; rfl
    have hlt : w.natAbs < 2 ^ n := by
      have : (w.natAbs : Int) < 2 ^ n := by omega
      exact_mod_cast this
    have := (Nat.log2_lt hne).mpr hlt
    omega
theorem stirred {n : Nat} {w : Int} (hn : n ≤ 10 ^ 15) (w0 : 0 < w) (w1 : w ≤ 10 ^ 60) {cs : List Int} {p cur st ct : Int} (h : BB n cs p cur st ct) :
    ∃ v st' ct', runF f__law_stirred [.ptr 0, .int w] [CB cs p cur st ct] = .ok (.int v) [CB cs p cur st' ct'] ∧ BB (n + 1) cs p cur st' ct' ∧ 0 ≤ v ∧ v < w := by
  obtain ⟨h1, h2, h3, h4, h5, h6⟩ := h
  have hb := bits_le (w := w) (n := 200) (by omega) (by
    have : (10 : Int) ^ 60 < 2 ^ 200 := by decide +kernel
    omega)
  generalize hB : PySem.Builtin.Int.intBits w = B at *
  have hc : 1 + B / 27 ≤ 9 := by omega
  obtain ⟨ρ2, μ2, e1, fd, r3, r4, st', rfl, rfl, s0, s1, f0, f1⟩ := rloop (t := 3) (c := 1 + B / 27) (e := .bin .add (.k (.int 1)) (.bin .fdiv (.bits (.v 1)) (.k (.int 27)))) (b := f__law_stirred_b0) (fun i ρ μ => ∃ fd r3 r4 st', ρ = [some (.ptr 0), some (.int w), some (.int fd), r3, r4] ∧ μ = [CB cs p cur st' (ct + i)] ∧ 0 ≤ st' ∧ st' < 2147483647 ∧ 0 ≤ fd ∧ fd + 1 ≤ 2 ^ (27 * i))
    (ρ := [some (.ptr 0), some (.int w), some (.int 0), none, none]) (μ := [CB cs p cur st ct]) (rngE (by omega) (by
      have d27 : divOk 27 = true := by decide +kernel
      have e : (1 : Int) + (B : Int) / 27 = ((1 + B / 27 : Nat) : Int) := by omega
      simp [hB, d27])) ⟨0, none, none, st, rfl, by simp, h5.1, h5.2, by omega, by simp⟩ fun i ρ μ hi hI => by
    obtain ⟨fd, r3, r4, st', rfl, rfl, s0, s1, f0, f1⟩ := hI
    obtain ⟨st2, fd2, r42, e, a1, a2, a3, a4⟩ := stir_step s0 s1 (ct := ct + (i : Int)) (by omega) (by omega) f0 f1 (by omega) cs p cur (some (.int w)) (some (.int (i : Int))) r4
    exact ⟨[some (.ptr 0), some (.int w), some (.int fd), some (.int (i : Int)), r4], _, _, by simp, e, fd2, some (.int (i : Int)), r42, st2, rfl, by rw [show ct + (i : Int) + 1 = ct + ((i + 1 : Nat) : Int) by omega], a1, a2, a3, a4⟩
  have hl : exS f__law_stirred_l0 [some (.ptr 0), some (.int w), some (.int 0), none, none] [CB cs p cur st ct] = _ := e1
  refine ⟨fd % w, st', ct + ((1 + B / 27 : Nat) : Int), ?_, ⟨h1, h2, h3, h4, ⟨s0, s1⟩, by omega⟩, Int.emod_nonneg _ (by omega), Int.emod_lt_of_pos _ w0⟩
  have hw : 0 < w := w0
  have nn := fun k => noPtrL_dI k cs
  clear e1
  generalize ct + ((1 + B / 27 : Nat) : Int) = ct2 at *
  simp only [CB] at hl ⊢
  generalize dI cs = C at *
  unfold runF
  simp [f__law_stirred, hl, hw, nn]
theorem draw {n : Nat} {w : Int} (hn : n ≤ 10 ^ 15) (w0 : 0 < w) (w1 : w ≤ 10 ^ 60) {cs : List Int} {p cur st ct : Int} (h : BB n cs p cur st ct) :
    ∃ v p' cur' st' ct', runF f__law_draw [.ptr 0, .int w] [CB cs p cur st ct] = .ok (.int v) [CB cs p' cur' st' ct'] ∧ BB (n + 1) cs p' cur' st' ct' ∧ 0 ≤ v ∧ v < w := by
  have hd : divOk w = true := divOk_of w0 200 (natAbs_lt (by omega) (by
    have : (10 : Int) ^ 60 < 2 ^ 200 := by decide +kernel
    omega)) (by omega)
  have hlen : (dI cs).length = cs.length := by simp [dI]
  obtain ⟨h1, h2, h3, h4, h5, h6⟩ := id h
  by_cases hc : cur = 0
  · by_cases hp : p < (cs.length : Int)
    · obtain ⟨i, rfl⟩ : ∃ i : Nat, p = (i : Int) := ⟨p.toNat, by omega⟩
      have hi : i < cs.length := by omega
      have hat := dI_at (xs := cs) hi
      have hx := h2 (cs[i]?.getD 0) (by rw [List.getElem?_eq_getElem hi]; exact List.getElem_mem hi)
      generalize cs[i]?.getD 0 = x at *
      refine ⟨x % w, (i : Int) + 1, x / w, st, ct, ?_, ⟨h1, h2, by omega, ⟨Int.ediv_nonneg hx.1 (by omega), Int.lt_of_le_of_lt (Int.ediv_le_self _ hx.1) hx.2⟩, h5, by omega⟩, Int.emod_nonneg _ (by omega), Int.emod_lt_of_pos _ w0⟩
      subst hc
      have nn := fun k => noPtrL_dI k cs
      simp only [CB]
      generalize dI cs = C at *
      have hp' : (i : Int) < (C.length : Int) := by omega
      have hi2 : i < C.length := by omega
      unfold runF
      simp [f__law_draw, hp', hi2, hat, hd, w0, L2.ixN, nn]
    · obtain ⟨v, st', ct', e1, b1, v0, v1⟩ := stirred hn w0 w1 h
      refine ⟨v, p, cur, st', ct', ?_, b1, v0, v1⟩
      have hs : ∀ μ, μ = [CB cs p cur st ct] → callD (denF f__law_stirred) [.ptr 0, .int w] μ = .ok (.int v) [CB cs p cur st' ct'] := fun μ hμ => by
        subst hμ
        unfold CB at e1 ⊢
        simp [e1]
      have hs := hs _ rfl
      subst hc
      have nn := fun k => noPtrL_dI k cs
      clear e1
      simp only [CB] at hs ⊢
      generalize dI cs = C at *
      have hp' : ¬ p < (C.length : Int) := by omega
      unfold runF
      simp [f__law_draw, -callD, hp', hs, L2.ixN, nn]
  · refine ⟨cur % w, p, cur / w, st, ct, ?_, ⟨h1, h2, h3, ⟨Int.ediv_nonneg h4.1 (by omega), Int.lt_of_le_of_lt (Int.ediv_le_self _ h4.1) h4.2⟩, h5, by omega⟩, Int.emod_nonneg _ (by omega), Int.emod_lt_of_pos _ w0⟩
    have nn := fun k => noPtrL_dI k cs
    simp only [CB]
    generalize dI cs = C at *
    unfold runF
    simp [f__law_draw, hc, hd, w0, L2.ixN, nn]
theorem BB.mono {n n' : Nat} {cs : List Int} {p cur st ct : Int} (h : BB n cs p cur st ct) (hn : n ≤ n') : BB n' cs p cur st ct := ⟨h.len, h.cells, h.p0, h.cur0, h.st0, h.ct0.1, by have := h.ct0.2; omega⟩
/-- the bag lies in cell j -/
def BJ (n j : Nat) (μ : Store) : Prop := ∃ cs p cur st ct, μ[j]? = some (CB cs p cur st ct) ∧ BB n cs p cur st ct
theorem BJ.mono {n n' j : Nat} {μ : Store} (h : BJ n j μ) (hn : n ≤ n') : BJ n' j μ := by
  obtain ⟨cs, p, cur, st, ct, h1, h2⟩ := h
  exact ⟨cs, p, cur, st, ct, h1, h2.mono hn⟩
theorem noPtrL_CB (n : Nat) (cs : List Int) (p cur st ct : Int) : noPtrL n [.lst (dI cs), .int p, .int cur, .int st, .int ct] = true := by simp
theorem callBS {f : Fn} {Q' : List Int → Int → Int → Int → Int → Prop} {P : D → Prop} {k : Nat} {μ : Store} {xs : List D} {cs : List Int} {p cur st ct : Int} (hps : xs.length + 1 = f.ps.length) (hx : frzL xs = xs) (hn : noPtrL 0 xs = true) (h1 : μ[k]? = some (CB cs p cur st ct))
    (spec : ∃ d p' cur' st' ct', runF f (.ptr 0 :: xs) [CB cs p cur st ct] = .ok d [CB cs p' cur' st' ct'] ∧ Q' cs p' cur' st' ct' ∧ noPtr 0 d = true ∧ P d) : ∃ d p' cur' st' ct', callD (denF f) (.ptr k :: xs) μ = .ok d (μ.set k (CB cs p' cur' st' ct')) ∧ Q' cs p' cur' st' ct' ∧ P d := by
  obtain ⟨d, p', cur', st', ct', h3, h4, h5, h6⟩ := spec
  obtain ⟨p1, p2, p3⟩ := plain_args xs hn
  have hk : k < μ.length := (List.getElem?_eq_some_iff.mp h1).1
  refine ⟨d, p', cur', st', ct', ?_, h4, h6⟩
  have e1 : (D.ptr k :: xs).length = (denF f).ps.length := by simpa using hps
  have e2 : frzL (D.ptr k :: xs) = .ptr k :: xs := by simp [frzL, frz, hx]
  have e3 : ptrs (D.ptr k :: xs) = [k] := by simp [ptrs, p1]
  have e4 : renum 0 (D.ptr k :: xs) = .ptr 0 :: xs := by simp [renum, p2]
  have e5 : (D.ptr k :: xs).all okA = true := by rw [List.all_cons, p3]; rfl
  have n0 := noPtrL_CB 0 cs p cur st ct
  have n1 := noPtrL_CB 0 cs p' cur' st' ct'
  have e6 : getCs μ [k] = some [CB cs p cur st ct] := by
    unfold CB at h1 ⊢
    simp only [getCs, h1, n0, if_true]
  unfold callD
  rw [e2, e3, e4, if_pos ⟨e1, e5, by simp⟩, e6]
  simp only [denF_run, h3, h5]
  rw [if_pos ⟨trivial, rfl, by simp only [List.all_cons, List.all_nil, Bool.and_true]; exact n1⟩]
  rfl
theorem callB' {f : Fn} {n n' : Nat} {P : D → Prop} {k : Nat} {μ : Store} {xs : List D} (hps : xs.length + 1 = f.ps.length) (hx : frzL xs = xs) (hn : noPtrL 0 xs = true) (h : BJ n k μ)
    (spec : ∀ cs p cur st ct, BB n cs p cur st ct → ∃ d cs' p' cur' st' ct', runF f (.ptr 0 :: xs) [CB cs p cur st ct] = .ok d [CB cs' p' cur' st' ct'] ∧ BB n' cs' p' cur' st' ct' ∧ noPtr 0 d = true ∧ P d) : ∃ d μ', callD (denF f) (.ptr k :: xs) μ = .ok d μ' ∧ BJ n' k μ' ∧ μ'.length = μ.length ∧ P d := by
  obtain ⟨cs, p, cur, st, ct, h1, h2⟩ := h
  obtain ⟨d, cs', p', cur', st', ct', h3, h4, h5, h6⟩ := spec cs p cur st ct h2
  obtain ⟨p1, p2, p3⟩ := plain_args xs hn
  have hk : k < μ.length := (List.getElem?_eq_some_iff.mp h1).1
  refine ⟨d, μ.set k (CB cs' p' cur' st' ct'), ?_, ⟨cs', p', cur', st', ct', List.getElem?_set_self hk, h4⟩, List.length_set .., h6⟩
  have e1 : (D.ptr k :: xs).length = (denF f).ps.length := by simpa using hps
  have e2 : frzL (D.ptr k :: xs) = .ptr k :: xs := by simp [frzL, frz, hx]
  have e3 : ptrs (D.ptr k :: xs) = [k] := by simp [ptrs, p1]
  have e4 : renum 0 (D.ptr k :: xs) = .ptr 0 :: xs := by simp [renum, p2]
  have e5 : (D.ptr k :: xs).all okA = true := by rw [List.all_cons, p3]; rfl
  have n0 := noPtrL_CB 0 cs p cur st ct
  have n1 := noPtrL_CB 0 cs' p' cur' st' ct'
  have e6 : getCs μ [k] = some [CB cs p cur st ct] := by
    unfold CB at h1 ⊢
    simp only [getCs, h1, n0, if_true]
  unfold callD
  rw [e2, e3, e4, if_pos ⟨e1, e5, by simp⟩, e6]
  simp only [denF_run, h3, h5]
  rw [if_pos ⟨trivial, rfl, by simp only [List.all_cons, List.all_nil, Bool.and_true]; exact n1⟩]
  rfl
theorem callB {f : Fn} {n n' : Nat} {P : D → Prop} {k : Nat} {μ : Store} {xs : List D} (hps : xs.length + 1 = f.ps.length) (hx : frzL xs = xs) (hn : noPtrL 0 xs = true) (h : BJ n k μ)
    (spec : ∀ cs p cur st ct, BB n cs p cur st ct → ∃ d p' cur' st' ct', runF f (.ptr 0 :: xs) [CB cs p cur st ct] = .ok d [CB cs p' cur' st' ct'] ∧ BB n' cs p' cur' st' ct' ∧ noPtr 0 d = true ∧ P d) : ∃ d μ', callD (denF f) (.ptr k :: xs) μ = .ok d μ' ∧ BJ n' k μ' ∧ μ'.length = μ.length ∧ P d :=
  callB' hps hx hn h fun cs p cur st ct hb => by
    obtain ⟨d, p', cur', st', ct', h1, h2, h3, h4⟩ := spec cs p cur st ct hb
    exact ⟨d, cs, p', cur', st', ct', h1, h2, h3, h4⟩
/-- a draw, the bag first in the store -/
theorem drawS {n : Nat} {w : Int} {r : Store} (hn : n ≤ 10 ^ 15) (w0 : 0 < w) (w1 : w ≤ 10 ^ 60) {cs : List Int} {p cur st ct : Int} (h : BB n cs p cur st ct) :
    ∃ v p' cur' st' ct', callD (denF f__law_draw) [.ptr 0, .int w] (CB cs p cur st ct :: r) = .ok (.int v) (CB cs p' cur' st' ct' :: r) ∧ BB (n + 1) cs p' cur' st' ct' ∧ 0 ≤ v ∧ v < w := by
  obtain ⟨v, p', cur', st', ct', e, b, v0, v1⟩ := draw hn w0 w1 h
  obtain ⟨d, p2, cur2, st2, ct2, e2, b2, u, rfl, u0, u1⟩ := callBS (f := f__law_draw) (k := 0) (μ := CB cs p cur st ct :: r) (xs := [.int w]) (Q' := BB (n + 1)) (P := fun d => ∃ v : Int, d = .int v ∧ 0 ≤ v ∧ v < w) rfl rfl rfl rfl ⟨_, p', cur', st', ct', e, b, rfl, v, rfl, v0, v1⟩
  exact ⟨u, p2, cur2, st2, ct2, e2, b2, u0, u1⟩
theorem drawJ {n j : Nat} {w : Int} {μ : Store} (hn : n ≤ 10 ^ 15) (w0 : 0 < w) (w1 : w ≤ 10 ^ 60) (h : BJ n j μ) :
    ∃ v μ', callD (denF f__law_draw) [.ptr j, .int w] μ = .ok (.int v) μ' ∧ BJ (n + 1) j μ' ∧ μ'.length = μ.length ∧ 0 ≤ v ∧ v < w := by
  obtain ⟨d, μ', h1, h2, h3, v, rfl, h4, h5⟩ := callB (f := f__law_draw) (n' := n + 1) (xs := [.int w]) (P := fun d => ∃ v : Int, d = .int v ∧ 0 ≤ v ∧ v < w) rfl rfl rfl h fun cs p cur st ct hb => by
    obtain ⟨v, p', cur', st', ct', e, b, v0, v1⟩ := draw hn w0 w1 hb
    exact ⟨_, p', cur', st', ct', e, b, rfl, v, rfl, v0, v1⟩
  exact ⟨v, μ', h1, h2, h3, h4, h5⟩
/-! the bag of a script -/
theorem r__law_bag {ns : List Int} (hl : ns.length ≤ 63) : ∃ cs st, runF f__law_bag [.scr ns] [] = .ok (.new [.new (dI cs), .int 0, .int 0, .int st, .int 0]) [] ∧ BB 0 cs 0 0 st 0 := by
  have hcut : cutD (ns.map D.int) none (some 63) = ns.map D.int := by
    have e : HT.sIx (ns.map D.int).length (ns.map D.int).length (some 63) = ns.length := by
      unfold HT.sIx
      simp
      omega
    unfold cutD
    rw [HT.sIx_none, e]
    simp
    exact List.take_of_length_le (by simp)
  have fz : frzL (ns.map D.int) = ns.map D.int := frzL_ints (fun x : Int => x) ns
  obtain ⟨ρ2, μ2, h1, st, r2, rfl, rfl, s0, s1⟩ := forS_inv (tg := .nm 2) (b := exSs f__law_bag_b0) (fun i ρ μ => ∃ st r2, ρ = [some (.scr ns), some (.int st), r2] ∧ μ = [] ∧ 0 ≤ st ∧ st < 2147483647) (ns.map D.int) 0 [some (.scr ns), some (.int 151), none] [] ⟨151, none, rfl, rfl, by omega, by omega⟩ fun j d ρ μ hd hI => by
    obtain ⟨st, r2, rfl, rfl, s0, s1⟩ := hI
    rw [List.getElem?_map, Option.map_eq_some_iff] at hd
    obtain ⟨z, _, rfl⟩ := hd
    have m1 : mulOk st 48271 = true := mulOk_of 40 40 (by omega) (by decide) (by omega)
    exact ⟨[some (.scr ns), some (.int st), some (.int z)], [some (.scr ns), some (.int ((st * 48271 + z % 2147483629 + 1) % 2147483647)), some (.int z)], [], by simp, by simp [f__law_bag_b0, m1], _, _, rfl, rfl, Int.emod_nonneg _ (by decide), Int.emod_lt_of_pos _ (by decide)⟩
  have hl0 : exS f__law_bag_l0 [some (.scr ns), some (.int 151), none] [] = .ok (.nx [some (.scr ns), some (.int st), r2]) [] := by
    unfold f__law_bag_l0
    simp [asL, hcut, itemsOf, fz]
    exact h1
  have p1 : powOk 10 60 = true := by decide +kernel
  have p2 : powOk (10 ^ 60) 10 = true := by decide +kernel
  have eH : ((10 : Int) ^ 60) ^ 10 = HUGE := by decide +kernel
  have c0 : (ev f__law_bag_c0).e [some (.scr ns), some (.int st), r2] [] = .ok (.new (dI (ns.map fun z => (if z < 0 then -z else z) % HUGE))) [] := by
    have hp := huge_pos
    have := lcS_map (tg := .nm 2) (tst := evTs .nil) (elt := (ev (.bin .mod (.bi .int (.cons (.bi .abs (.cons (.v 2) .nil)) .nil)) (.bin .pow (.bin .pow (.k (.int 10)) (.k (.int 60))) (.k (.int 10))))).e) (ρ := [some (.scr ns), some (.int st), r2]) (μ := []) (fun x : Int => .int x) (fun x => [some (.scr ns), some (.int st), some (.int x)]) (fun x => .int ((if x < 0 then -x else x) % HUGE)) ns [] (fun x hx => by
      refine ⟨by simp, by simp, ?_⟩
      have e2 : (ev (.bin .pow (.bin .pow (.k (.int 10)) (.k (.int 60))) (.k (.int 10)))).e [some (.scr ns), some (.int st), some (.int x)] [] = .ok (.int HUGE) [] := by
        have q2 : powOk 1000000000000000000000000000000000000000000000000000000000000 10 = true := p2
        have q3 : (1000000000000000000000000000000000000000000000000000000000000 : Int) ^ 10 = HUGE := eH
        simp [p1, q2, q3]
      generalize E.bin .pow (.bin .pow (.k (.int 10)) (.k (.int 60))) (.k (.int 10)) = E1 at *
      generalize HUGE = H at *
      simp [e2, hp]) (by simp; omega)
    refine lc_of (ds := ns.map D.int) (lv := []) (μ1 := []) (by simp [asL, hcut, itemsOf, fz]) ?_
    refine Eq.trans this ?_
    simp [dI, Function.comp_def]
  refine ⟨ns.map fun z => (if z < 0 then -z else z) % HUGE, st, ?_, ⟨by simpa using hl, fun x hx => ?_, by omega, ⟨by omega, huge_pos⟩, ⟨s0, s1⟩, by omega, by omega⟩⟩
  · have nn := fun k => noPtrL_dI k (ns.map fun z => (if z < 0 then -z else z) % HUGE)
    generalize dI (ns.map fun z => (if z < 0 then -z else z) % HUGE) = C at *
    unfold runF
    simp [f__law_bag, hl0, c0, nn]
  · obtain ⟨z, _, rfl⟩ := List.mem_map.mp hx
    exact ⟨Int.emod_nonneg _ (by have := huge_pos; omega), Int.emod_lt_of_pos _ huge_pos⟩
theorem bagC {ns : List Int} (hl : ns.length ≤ 63) (μ : Store) : ∃ cs st, callD (denF f__law_bag) [.scr ns] μ = .ok (.new [.new (dI cs), .int 0, .int 0, .int st, .int 0]) μ ∧ BB 0 cs 0 0 st 0 := by
  obtain ⟨cs, st, h1, h2⟩ := r__law_bag hl
  exact ⟨cs, st, call0 h1 rfl rfl rfl (by simp), h2⟩
/-! fractions -/
theorem common_loop : ∀ (n b : Nat) (a : Nat), b ≤ n → ∃ m, whileN (ev (.cmp (.v 1) (.cons .gt (.k (.int 0)) .nil))).t (exSs f__law_common_b0) m [some (.int a), some (.int b)] [] = some (.ok (.nx [some (.int (Nat.gcd a b)), some (.int 0)]) [])
  | n, 0, a, _ => ⟨1, by simp [whileN]⟩
  | 0, b + 1, a, h => by omega
  | n + 1, b + 1, a, h => by
    have hlt : a % (b + 1) < b + 1 := Nat.mod_lt _ (by omega)
    have ih := common_loop n (a % (b + 1)) (b + 1) (by omega)
    refine whileS_turn (μ1 := []) (ρ' := [some (.int ((b + 1 : Nat) : Int)), some (.int ((a % (b + 1) : Nat) : Int))]) (μ2 := []) ?_ ?_ ?_
    · simp
    · simp [f__law_common_b0]
    · obtain ⟨m, hm⟩ := ih
      refine ⟨m, ?_⟩
      rw [hm, Nat.gcd_comm a (b + 1), Nat.gcd_rec (b + 1) a, Nat.gcd_comm]
theorem r__law_common {a b : Int} (h0 : 0 ≤ a) (h1 : 0 ≤ b) : runF f__law_common [.int a, .int b] [] = .ok (.int (Int.gcd a b)) [] := by
  obtain ⟨m, hm⟩ := common_loop b.natAbs b.natAbs a.natAbs (Nat.le_refl _)
  have ha : (a.natAbs : Int) = a := by omega
  have hb' : (b.natAbs : Int) = b := by omega
  rw [ha, hb'] at hm
  have hw : exS f__law_common_w0 [some (.int a), some (.int b)] [] = .ok (.nx [some (.int (Int.gcd a b)), some (.int 0)]) [] := whileS_of hm
  unfold runF
  simp [f__law_common, hw]
theorem r__law_simple {t b : Int} (hb : 0 < b) (hl : b.natAbs.log2 < 9000) : runF f__law_simple [.int t, .int b] [] = .ok (dP (red t b)) [] := by
  have e1 : ∀ μ, callD (denF f__law_common) [.int (if t < 0 then -t else t), .int b] μ = .ok (.int (Int.gcd t b)) μ := fun μ => by
    have := r__law_common (a := if t < 0 then -t else t) (b := b) (by split <;> omega) (by omega)
    have e : Int.gcd (if t < 0 then -t else t) b = Int.gcd t b := by split <;> simp
    rw [e] at this
    exact call0 this rfl rfl rfl rfl
  obtain ⟨g0, g1⟩ := red_gcd (s := t) hb
  have hd : divOk (Int.gcd t b : Int) = true := by
    have hl2 : (Int.gcd t b).log2 < 9000 := log2_lt (b := b.natAbs) (by omega) hl (by omega)
    have hg := g0
    unfold divOk
    simp [hl2]
    omega
  unfold runF
  simp [f__law_simple, -callD, e1, hd, red, dP]
theorem simpleC {t b : Int} (hb : 0 < b) (hl : b.natAbs.log2 < 9000) (μ : Store) : callD (denF f__law_simple) [.int t, .int b] μ = .ok (dP (red t b)) μ := call0 (r__law_simple hb hl) rfl rfl rfl rfl
theorem red_gcd1 {t b : Int} (hb : 0 < b) : Int.gcd (red t b).1 (red t b).2 = 1 := by
  obtain ⟨g0, _⟩ := red_gcd (s := t) hb
  unfold red
  exact Int.gcd_ediv_gcd_ediv_gcd (by omega)
theorem kp_red {t b : Int} (h1 : 1 ≤ t) (h2 : t < b) (h3 : b ≤ 100) : Kp (red t b) := by
  have hb : 0 < b := by omega
  obtain ⟨r1, r2, r3, r4⟩ := red_pos (a := t) hb
  have g := red_gcd1 (t := t) hb
  generalize red t b = R at *
  have h4 : 0 < R.1 := by
    rcases Int.lt_or_le 0 R.1 with z | z
    · exact z
    · exfalso
      have h5 : 0 < t * R.2 := Int.mul_pos (by omega) r1
      have h6 : R.1 * b ≤ 0 := Int.mul_nonpos_of_nonpos_of_nonneg z (by omega)
      omega
  have h5 : R.1 < R.2 := by
    rcases Int.lt_or_le R.1 R.2 with z | z
    · exact z
    · exfalso
      have h6 : R.2 * b ≤ R.1 * b := Int.mul_le_mul_of_nonneg_right z (by omega)
      have h7 : t * R.2 < b * R.2 := Int.mul_lt_mul_of_pos_right h2 r1
      rw [Int.mul_comm b] at h7
      omega
  exact ⟨by omega, h5, by omega, g⟩
theorem fr_red {a b : Int} (h0 : 0 ≤ a) (hab : a ≤ b) (h1 : 1 ≤ b) : 0 ≤ (red a b).1 ∧ (red a b).1 ≤ (red a b).2 ∧ 1 ≤ (red a b).2 ∧ (red a b).2 ≤ b ∧ Int.gcd (red a b).1 (red a b).2 = 1 := by
  have hb : 0 < b := by omega
  obtain ⟨r1, r2, r3, r4⟩ := red_pos (a := a) hb
  have g := red_gcd1 (t := a) hb
  generalize red a b = R at *
  have h4 : 0 ≤ R.1 := by
    rcases Int.lt_or_le R.1 0 with z | z
    · exfalso
      have h5 : R.1 * b < 0 := Int.mul_neg_of_neg_of_pos z hb
      have h6 : 0 ≤ a * R.2 := Int.mul_nonneg h0 (by omega)
      omega
    · exact z
  have h5 : R.1 ≤ R.2 := by
    rcases Int.lt_or_le R.2 R.1 with z | z
    · exfalso
      have h6 : R.2 * b < R.1 * b := Int.mul_lt_mul_of_pos_right z hb
      have h7 : a * R.2 ≤ b * R.2 := Int.mul_le_mul_of_nonneg_right hab (by omega)
      rw [Int.mul_comm b] at h7
      omega
    · exact z
  exact ⟨h4, h5, by omega, r3, g⟩
theorem ix3 (μ : Store) (x y z v : Int) (h0 : 0 ≤ v) (h1 : v < 3) : ∃ w, ixD μ (.new [.int x, .int y, .int z]) (.int v) = .ok (.int w) μ ∧ (w = x ∨ w = y ∨ w = z) := by
  have hv : v = 0 ∨ v = 1 ∨ v = 2 := by omega
  rcases hv with rfl | rfl | rfl
  · exact ⟨x, by simp, .inl rfl⟩
  · exact ⟨y, by simp, .inr (.inl rfl)⟩
  · exact ⟨z, by simp, .inr (.inr rfl)⟩
theorem ix2 (μ : Store) (x y v : Int) (h0 : 0 ≤ v) (h1 : v < 2) : ∃ w, ixD μ (.new [.int x, .int y]) (.int v) = .ok (.int w) μ ∧ (w = x ∨ w = y) := by
  have hv : v = 0 ∨ v = 1 := by omega
  rcases hv with rfl | rfl
  · exact ⟨x, by simp, .inl rfl⟩
  · exact ⟨y, by simp, .inr rfl⟩
theorem ix4 (μ : Store) (x y z u v : Int) (h0 : 0 ≤ v) (h1 : v < 4) : ∃ w, ixD μ (.new [.int x, .int y, .int z, .int u]) (.int v) = .ok (.int w) μ ∧ (w = x ∨ w = y ∨ w = z ∨ w = u) := by
  have hv : v = 0 ∨ v = 1 ∨ v = 2 ∨ v = 3 := by omega
  rcases hv with rfl | rfl | rfl | rfl
  · exact ⟨x, by simp, .inl rfl⟩
  · exact ⟨y, by simp, .inr (.inl rfl)⟩
  · exact ⟨z, by simp, .inr (.inr (.inl rfl))⟩
  · exact ⟨u, by simp [L2.atI, L2.ixN], .inr (.inr (.inr rfl))⟩
theorem big_log {b : Int} {n : Nat} (h0 : 0 < b) (h : b < 2 ^ n) (hn : n ≤ 8900) : b.natAbs.log2 < 9000 := log_of' (n := n) (natAbs_lt (by omega) h) hn
/-- a drawn fraction from 0 to 1 -/
def Pf (most : Int) (f : Int × Int) : Prop := 0 ≤ f.1 ∧ f.1 ≤ f.2 ∧ 1 ≤ f.2 ∧ f.2 ≤ most ∧ Int.gcd f.1 f.2 = 1
/-! contents -/
theorem reduced_l0 {B : Nat} (q0 : Option D) : ∀ (ys : List Int) (d : Int) (q2 : Option D), 0 ≤ d → Bd B ys → ∃ r2, forS (.nm 2) (exSs f__law_reduced_b0) [] (dI ys) [q0, some (.int d), q2] [] = .ok (.nx [q0, some (.int (gl d ys)), r2]) []
  | [], d, q2, _, _ => ⟨q2, by simp [dI, forS, gl]⟩
  | y :: ys, d, q2, h, hb => by
    have hy := hb y List.mem_cons_self
    have hg := r__law_common (a := y) (b := d) hy.1 h
    rw [Int.gcd_comm] at hg
    obtain ⟨r2, ih⟩ := reduced_l0 q0 ys (Int.gcd d y) (some (.int y)) (by omega) fun z hz => hb z (List.mem_cons_of_mem _ hz)
    refine ⟨r2, ?_⟩
    have e1 : callD (denF f__law_common) [.int y, .int d] [] = .ok (.int (Int.gcd d y)) [] := call0 hg rfl rfl rfl rfl
    have b : exSs f__law_reduced_b0 [q0, some (.int d), some (.int y)] [] = .ok (.nx [q0, some (.int (Int.gcd d y)), some (.int y)]) [] := by
      simp [f__law_reduced_b0, -callD, e1]
    show forS (.nm 2) (exSs f__law_reduced_b0) [] (.int y :: dI ys) [q0, some (.int d), q2] [] = _
    simp only [forS, lvOk_nil, if_true]
    simp only [bindT, List.length_cons, List.length_nil, frz, List.set_cons_succ, List.set_cons_zero]
    rw [if_pos (by decide)]
    simp only [b]
    exact ih
theorem r__law_reduced {xs : List Int} {B : Nat} (hB : B ≤ 8000) (hb : Bd B xs) (hs : 0 < xs.sum) (hl : xs.length ≤ 100000) : runF f__law_reduced [.lst (dI xs)] [] = .ok (.new (dI (plain xs))) [] := by
  obtain ⟨g0, x, hx, x0, gx⟩ := gl_pos (fun x hx => (hb x hx).1) hs
  obtain ⟨r2, h1⟩ := reduced_l0 (B := B) (some (.lst (dI xs))) xs 0 none (Int.le_refl _) hb
  have hw : exS f__law_reduced_l0 [some (.lst (dI xs)), some (.int 0), none] [] = .ok (.nx [some (.lst (dI xs)), some (.int (gl 0 xs)), r2]) [] := by
    simp [f__law_reduced_l0]
    exact h1
  have hd : divOk (gl 0 xs) = true := by
    have := Bd.log (hb x hx) hB
    have hl2 : (gl 0 xs).natAbs.log2 < 9000 := log2_lt (b := x.natAbs) (by omega) this (by omega)
    unfold divOk
    simp [hl2]
    omega
  have hc : (ev f__law_reduced_c0).e [some (.lst (dI xs)), some (.int (gl 0 xs)), r2] [] = .ok (.new (dI (plain xs))) [] := by
    have := lcS_map (tg := .nm 2) (tst := evTs .nil) (elt := (ev (.bin .fdiv (.v 2) (.v 1))).e) (ρ := [some (.lst (dI xs)), some (.int (gl 0 xs)), r2]) (μ := []) (fun x : Int => .int x) (fun x => [some (.lst (dI xs)), some (.int (gl 0 xs)), some (.int x)]) (fun x => .int (x / gl 0 xs)) xs [] (fun x hx => by simp [hd]) (by simp; omega)
    refine lc_of (ds := dI xs) (lv := []) (μ1 := []) (by simp) ?_
    refine Eq.trans this ?_
    simp [dI, plain, Function.comp_def]
  have nn := fun k => noPtrL_dI k (plain xs)
  generalize dI (plain xs) = P at *
  generalize dI xs = X at *
  unfold runF
  simp [f__law_reduced, hw, hc, nn]
theorem reducedC {xs : List Int} {B : Nat} {d : D} (hd : frz d = .lst (dI xs)) (hB : B ≤ 8000) (hb : Bd B xs) (hs : 0 < xs.sum) (hl : xs.length ≤ 100000) (μ : Store) : callD (denF f__law_reduced) [d] μ = .ok (.new (dI (plain xs))) μ :=
  call0 (es := [.lst (dI xs)]) (r__law_reduced hB hb hs hl) (by simp only [frzL, hd]) (by simp) rfl (by simp)
theorem BJ.one {n : Nat} {μ : Store} (h : BJ n 0 μ) (hl : μ.length = 1) : ∃ cs p cur st ct, μ = [CB cs p cur st ct] ∧ BB n cs p cur st ct := by
  obtain ⟨cs, p, cur, st, ct, h1, h2⟩ := h
  match μ, hl with
  | [x], _ => cases h1; exact ⟨cs, p, cur, st, ct, rfl, h2⟩
/-- things made by the bag, over a range -/
theorem lc_bagP {α : Type} (f : α → D) (P : α → Prop) {elt : E} {t : Nat} {ρ : Slots} {n j s m : Nat} {μ : Store} (hm : m ≤ 1000) (hs : s ≤ 1000) (hn : n ≤ 10 ^ 10) (ht : t < ρ.length) (h : BJ n j μ)
    (he : ∀ (i : Int) (n' : Nat) (μ : Store), n' ≤ 10 ^ 12 → BJ n' j μ → ∃ p μ', (ev elt).e (ρ.set t (some (.int i))) μ = .ok (f p) μ' ∧ BJ (n' + s) j μ' ∧ μ'.length = μ.length ∧ P p) :
    ∃ (ps : List α) (μ' : Store), lcS (.nm t) (evTs .nil) (ev elt).e [] ρ (rangeL 0 1 m) [] μ = .ok (.new (ps.map f)) μ' ∧ BJ (n + m * s) j μ' ∧ μ'.length = μ.length ∧ ps.length = m ∧ ∀ p ∈ ps, P p := by
  have bound : ∀ i, i ≤ m → n + i * s ≤ 10 ^ 12 := fun i hi => by
    have : i * s ≤ 1000 * 1000 := Nat.mul_le_mul (by omega) hs
    omega
  obtain ⟨ys, μ', h1, ⟨h2, h3⟩, h4, h5⟩ := lcS_inv (tg := .nm t) (elt := (ev elt).e) (ρ := ρ) (fun i μ' => BJ (n + i * s) j μ' ∧ μ'.length = μ.length) (fun y => ∃ p, y = f p ∧ P p) (rangeL 0 1 m) [] 0 μ ⟨by simpa using h, rfl⟩ (by simp [rangeL_len]; omega) fun i d μ2 hd ⟨k1, k2⟩ => by
    have hi : i < m := by have := (List.getElem?_eq_some_iff.mp hd).1; simpa [rangeL_len] using this
    rw [rangeL_get m i 0 1 hi] at hd
    cases hd
    rw [Nat.zero_add] at k1 ⊢
    obtain ⟨p, μ3, q1, q2, q3, q4⟩ := he (0 + (i : Int) * 1) (n + i * s) μ2 (bound i (by omega)) k1
    exact ⟨ρ.set t (some (.int (0 + (i : Int) * 1))), f p, μ3, by simp [ht], q1, ⟨by rw [Nat.add_mul, Nat.one_mul, ← Nat.add_assoc]; exact q2, q3.trans k2⟩, p, rfl, q4⟩
  rw [rangeL_len, Nat.zero_add] at h2
  rw [rangeL_len] at h4
  have : ∃ ps : List α, ys = ps.map f ∧ ∀ p ∈ ps, P p := by
    clear h1 h4
    induction ys with
    | nil => exact ⟨[], rfl, by simp⟩
    | cons y ys ih =>
      obtain ⟨p, rfl, hp⟩ := h5 y List.mem_cons_self
      obtain ⟨ps, rfl, hps⟩ := ih fun z hz => h5 z (List.mem_cons_of_mem _ hz)
      exact ⟨p :: ps, rfl, fun q hq => by
        rcases List.mem_cons.mp hq with rfl | hq
        · exact hp
        · exact hps q hq⟩
  obtain ⟨ps, rfl, hps⟩ := this
  exact ⟨ps, μ', by simpa using h1, h2, h3, by simpa using h4, hps⟩
theorem r__law_drawn {n m : Nat} {far : Int} (hm0 : 0 < m) (hm : m ≤ 8) (f9 : 1 ≤ far) (f30 : far ≤ 10 ^ 30) (hn : n ≤ 10 ^ 9) {cs : List Int} {p cur st ct : Int} (h : BB n cs p cur st ct) :
    ∃ d cs' p' cur' st' ct', runF f__law_drawn (.ptr 0 :: [.int (m : Int), .int far]) [CB cs p cur st ct] = .ok d [CB cs' p' cur' st' ct'] ∧ BB (n + 17) cs' p' cur' st' ct' ∧ noPtr 0 d = true ∧ ∃ xs, d = .new (dI xs) ∧ Ct m 100 xs := by
  have big : (10 : Int) ^ 30 < 2 ^ 100 := by decide +kernel
  obtain ⟨xs, μ', h1, h2, h3, h4, h5⟩ := lc_bagP (fun x : Int => .int x) (fun x => 0 ≤ x ∧ x < 2 ^ 100) (elt := .call "_law_draw" (denF f__law_draw) (.cons (.v 0) (.cons (.ix (.lst (.cons (.k (.int 2)) (.cons (.k (.int 9)) (.cons (.v 2) .nil)))) (.call "_law_draw" (denF f__law_draw) (.cons (.v 0) (.cons (.k (.int 3)) .nil)) .nil [])) .nil)) .nil []) (t := 4) (s := 2) (m := m) (ρ := [some (.ptr 0), some (.int (m : Int)), some (.int far), none, none]) (n := n) (j := 0) (μ := [CB cs p cur st ct]) (by omega) (by omega) (by omega) (by simp) ⟨cs, p, cur, st, ct, rfl, h⟩ fun i n' μ hn' hj => by
    obtain ⟨v, μ1, e1, j1, l1, v0, v1⟩ := drawJ (w := 3) (by omega) (by omega) (by omega) hj
    obtain ⟨w, hw, hw2⟩ := ix3 μ1 2 9 far v v0 v1
    obtain ⟨x, μ2, e2, j2, l2, x0, x1⟩ := drawJ (w := w) (by omega) (by omega) (by omega) j1
    refine ⟨x, μ2, ?_, j2, l2.trans l1, x0, by omega⟩
    simp only [ixD_new] at hw
    simp [-callD, e1, hw, e2]
  have hc : (ev f__law_drawn_c0).e [some (.ptr 0), some (.int (m : Int)), some (.int far), none, none] [CB cs p cur st ct] = .ok (.new (dI xs)) μ' := lc_of (ds := rangeL 0 1 m) (lv := []) (μ1 := [CB cs p cur st ct]) (by simp [rangeD, small62_nat (i := (m : Int)) (by omega) (by omega)]) h1
  obtain ⟨cs1, p1, c1, s1, t1, rfl, b1⟩ := h2.one (by simpa using h3)
  have hbd : Bd 100 xs := h5
  have hsum := intsOf_dI xs
  by_cases hs : xs.sum = 0
  · obtain ⟨v, p2, c2, s2, t2, e2, b2, v0, v1⟩ := drawS (w := (m : Int)) (r := [.lst (dI xs)]) (by omega) (by omega) (by omega) b1
    obtain ⟨i, rfl⟩ : ∃ i : Nat, v = (i : Int) := ⟨v.toNat, by omega⟩
    have him : i < xs.length := by omega
    have hbd2 : Bd 100 (xs.set i 1) := fun x hx => by
      rcases mem_set hx with rfl | hx
      · exact ⟨by omega, by decide +kernel⟩
      · exact hbd x hx
    have hpos : 0 < (xs.set i 1).sum := by
      have hmem : (1 : Int) ∈ xs.set i 1 := by
        have hl : i < (xs.set i 1).length := by simpa using him
        have := List.getElem_mem hl
        simpa using this
      have := le_sumH (fun x hx => (hbd2 x hx).1) 1 hmem
      omega
    have ct2 := plain_ct hbd2 hpos
    rw [List.length_set, h4] at ct2
    have hix : L2.ixN (dI xs).length (i : Int) = some i := ixN_nat (by simp [dI]; exact him)
    have hset := dI_set xs i 1
    have er := fun μ => reducedC (d := .lst (dI (xs.set i 1))) rfl (by omega) hbd2 hpos (by simp; omega) μ
    refine ⟨.new (dI (plain (xs.set i 1))), cs1, p2, c2, s2, t2, ?_, b2.mono (by omega), by simp, _, rfl, ct2⟩
    have nn := fun k => noPtrL_dI k (plain (xs.set i 1))
    have nc := fun k => noPtrL_dI k cs1
    have n2 := frzL_dI xs
    clear h h1 h2 b1 b2 ct2
    rw [← hset] at er
    simp only [CB] at hc e2 ⊢
    generalize dI (plain (xs.set i 1)) = PX at *
    generalize dI xs = X at *
    generalize dI cs1 = C1 at *
    generalize dI cs = C at *
    unfold runF
    simp [f__law_drawn, -callD, hc, n2, hsum, hs, e2, hix, er, nn, nc]
  · have hpos : 0 < xs.sum := by
      have := sum_nonneg fun x hx => (hbd x hx).1
      omega
    have ct2 := plain_ct hbd hpos
    rw [h4] at ct2
    have er := fun μ => reducedC (d := .lst (dI xs)) rfl (by omega) hbd hpos (by omega) μ
    refine ⟨.new (dI (plain xs)), cs1, p1, c1, s1, t1, ?_, b1.mono (by omega), by simp, _, rfl, ct2⟩
    have nn := fun k => noPtrL_dI k (plain xs)
    have nc := fun k => noPtrL_dI k cs1
    have n2 := frzL_dI xs
    clear h h1 h2 b1 ct2
    simp only [CB] at hc ⊢
    generalize dI (plain xs) = PX at *
    generalize dI xs = X at *
    generalize dI cs1 = C1 at *
    generalize dI cs = C at *
    unfold runF
    simp [f__law_drawn, -callD, hc, n2, hsum, hs, er, nn, nc]
theorem drawnJ {n j m : Nat} {far : Int} {μ : Store} (hm0 : 0 < m) (hm : m ≤ 8) (f9 : 1 ≤ far) (f30 : far ≤ 10 ^ 30) (hn : n ≤ 10 ^ 9) (h : BJ n j μ) :
    ∃ xs μ', callD (denF f__law_drawn) [.ptr j, .int (m : Int), .int far] μ = .ok (.new (dI xs)) μ' ∧ BJ (n + 17) j μ' ∧ μ'.length = μ.length ∧ Ct m 100 xs := by
  obtain ⟨d, μ', h1, h2, h3, xs, rfl, h4⟩ := callB' (f := f__law_drawn) (n' := n + 17) (xs := [.int (m : Int), .int far]) (P := fun d => ∃ xs, d = .new (dI xs) ∧ Ct m 100 xs) rfl rfl rfl h fun cs p cur st ct hb => r__law_drawn hm0 hm f9 f30 hn hb
  exact ⟨xs, μ', h1, h2, h3, h4⟩
/-! _law_alike of equal trees -/
inductive Lk : Nat → D → Prop where
  | non (n : Nat) : Lk n .non
  | bl (n : Nat) (b : Bool) : Lk n (.bl b)
  | int (n : Nat) (i : Int) : Lk n (.int i)
  | lst {n : Nat} {xs : List D} : xs.length ≤ 1000 → (∀ x ∈ xs, Lk n x) → Lk (n + 1) (.lst xs)
  | tup {n : Nat} {xs : List D} : xs.length ≤ 1000 → (∀ x ∈ xs, Lk n x) → Lk (n + 1) (.tup xs)
theorem frzL_all : ∀ {xs : List D}, (∀ x ∈ xs, frz x = x) → frzL xs = xs
  | [], _ => rfl
  | x :: xs, h => by rw [frzL, h x List.mem_cons_self, frzL_all fun y hy => h y (List.mem_cons_of_mem _ hy)]
theorem noPtrL_all : ∀ {xs : List D}, (∀ x ∈ xs, noPtr 0 x = true) → noPtrL 0 xs = true
  | [], _ => rfl
  | x :: xs, h => by rw [noPtrL, h x List.mem_cons_self, noPtrL_all fun y hy => h y (List.mem_cons_of_mem _ hy)]; rfl
theorem Lk.frz : ∀ {n : Nat} {d : D}, Lk n d → Pyf.frz d = d := fun {n d} h => by
  induction h with
  | non => rfl
  | bl => rfl
  | int => rfl
  | lst => rfl
  | tup _ _ ih => show D.tup (frzL _) = _; rw [frzL_all ih]
theorem Lk.noPtr : ∀ {n : Nat} {d : D}, Lk n d → Pyf.noPtr 0 d = true := fun {n d} h => by
  induction h with
  | non => rfl
  | bl => rfl
  | int => rfl
  | lst _ _ ih => exact noPtrL_all ih
  | tup _ _ ih => exact noPtrL_all ih
theorem eq_bl (μ : Store) (b : Bool) : eqD μ (.bl b) (.bl b) = some true := by cases b <;> with_unfolding_all rfl
theorem eq_non (μ : Store) : eqD μ .non .non = some true := by with_unfolding_all rfl
theorem ixl (μ : Store) {xs : List D} {k : Nat} (h : k < xs.length) : L2.atI xs (k : Int) = some xs[k] := by
  rw [atI_nat _ _ h, List.getElem?_eq_getElem h]
theorem r__law_aliker0 {d : D} (h : Lk 0 d) : runF f__law_aliker0 [d, d] [] = .ok (.bl true) [] := by
  have q1 := fun μ => eq_bl μ true
  have q0 := fun μ => eq_bl μ false
  have qn := eq_non
  cases h with
  | non => unfold runF; simp [f__law_aliker0, hasTy, mapO, q0, qn]
  | bl _ b =>
    have qb := fun μ => eq_bl μ b
    unfold runF; simp [f__law_aliker0, hasTy, mapO, q1, q0, qb]
  | int _ i => unfold runF; simp [f__law_aliker0, hasTy, mapO, q1, q0]
theorem r__law_aliker1 {d : D} (h : Lk 1 d) : runF f__law_aliker1 [d, d] [] = .ok (.bl true) [] := by
  have q1 := fun μ => eq_bl μ true
  have q0 := fun μ => eq_bl μ false
  have qn := eq_non
  cases h with
  | non => unfold runF; simp [f__law_aliker1, hasTy, mapO, q0, qn]
  | bl _ b =>
    have qb := fun μ => eq_bl μ b
    unfold runF; simp [f__law_aliker1, hasTy, mapO, q1, q0, qb]
  | int _ i => unfold runF; simp [f__law_aliker1, hasTy, mapO, q1, q0]
  | lst hl hx =>
    rename_i xs
    have hc : ∃ bs, (ev f__law_aliker1_c0).e [some (.lst xs), some (.lst xs), none] [] = .ok (.new bs) [] ∧ boolsOf bs = some ((List.range xs.length).map fun _ => true) := by
      refine ⟨_, ?_, boolsOf_map (fun _ : Nat => true) (List.range xs.length)⟩
      have := lcS_map (tg := .nm 2) (tst := evTs .nil) (elt := (ev (.call "_law_alike" (denF f__law_aliker0) (.cons (.ix (.v 0) (.v 2)) (.cons (.ix (.v 1) (.v 2)) .nil)) .nil [])).e) (ρ := [some (.lst xs), some (.lst xs), none]) (μ := []) (fun t : Nat => .int (0 + (t : Int))) (fun t => [some (.lst xs), some (.lst xs), some (.int (0 + (t : Int)))]) (fun t => .bl true) (List.range xs.length) [] (fun t ht => by
        have ht := List.mem_range.mp ht
        have e0 : (0 : Int) + (t : Int) = (t : Int) := by omega
        have a1 := ixl [] ht
        have hk := hx xs[t] (List.getElem_mem ht)
        have s1 : callD (denF f__law_aliker0) [xs[t], xs[t]] [] = .ok (.bl true) [] := call0 (r__law_aliker0 hk) (by simp only [frzL, hk.frz]) (by simp only [noPtrL, hk.noPtr]; rfl) rfl rfl
        rw [e0]
        generalize xs[t] = x at *
        simp [-callD, a1, s1]) (by simp; omega)
      refine lc_of (ds := rangeL 0 1 xs.length) (lv := []) (μ1 := []) (by simp [rangeD, small62_nat (i := (xs.length : Int)) (by omega) (by omega)]) ?_
      rw [rangeL_eq]
      refine Eq.trans this ?_
      rw [List.nil_append]
    obtain ⟨bs, h1, h2⟩ := hc
    unfold runF
    simp [f__law_aliker1, hasTy, mapO, q1, q0, h1, h2]
  | tup hl hx =>
    rename_i xs
    have hc : ∃ bs, (ev f__law_aliker1_c0).e [some (.tup xs), some (.tup xs), none] [] = .ok (.new bs) [] ∧ boolsOf bs = some ((List.range xs.length).map fun _ => true) := by
      refine ⟨_, ?_, boolsOf_map (fun _ : Nat => true) (List.range xs.length)⟩
      have := lcS_map (tg := .nm 2) (tst := evTs .nil) (elt := (ev (.call "_law_alike" (denF f__law_aliker0) (.cons (.ix (.v 0) (.v 2)) (.cons (.ix (.v 1) (.v 2)) .nil)) .nil [])).e) (ρ := [some (.tup xs), some (.tup xs), none]) (μ := []) (fun t : Nat => .int (0 + (t : Int))) (fun t => [some (.tup xs), some (.tup xs), some (.int (0 + (t : Int)))]) (fun t => .bl true) (List.range xs.length) [] (fun t ht => by
        have ht := List.mem_range.mp ht
        have e0 : (0 : Int) + (t : Int) = (t : Int) := by omega
        have a1 := ixl [] ht
        have hk := hx xs[t] (List.getElem_mem ht)
        have s1 : callD (denF f__law_aliker0) [xs[t], xs[t]] [] = .ok (.bl true) [] := call0 (r__law_aliker0 hk) (by simp only [frzL, hk.frz]) (by simp only [noPtrL, hk.noPtr]; rfl) rfl rfl
        rw [e0]
        generalize xs[t] = x at *
        simp [-callD, a1, s1]) (by simp; omega)
      refine lc_of (ds := rangeL 0 1 xs.length) (lv := []) (μ1 := []) (by simp [rangeD, small62_nat (i := (xs.length : Int)) (by omega) (by omega)]) ?_
      rw [rangeL_eq]
      refine Eq.trans this ?_
      rw [List.nil_append]
    obtain ⟨bs, h1, h2⟩ := hc
    unfold runF
    simp [f__law_aliker1, hasTy, mapO, q1, q0, h1, h2]
theorem r__law_aliker2 {d : D} (h : Lk 2 d) : runF f__law_aliker2 [d, d] [] = .ok (.bl true) [] := by
  have q1 := fun μ => eq_bl μ true
  have q0 := fun μ => eq_bl μ false
  have qn := eq_non
  cases h with
  | non => unfold runF; simp [f__law_aliker2, hasTy, mapO, q0, qn]
  | bl _ b =>
    have qb := fun μ => eq_bl μ b
    unfold runF; simp [f__law_aliker2, hasTy, mapO, q1, q0, qb]
  | int _ i => unfold runF; simp [f__law_aliker2, hasTy, mapO, q1, q0]
  | lst hl hx =>
    rename_i xs
    have hc : ∃ bs, (ev f__law_aliker2_c0).e [some (.lst xs), some (.lst xs), none] [] = .ok (.new bs) [] ∧ boolsOf bs = some ((List.range xs.length).map fun _ => true) := by
      refine ⟨_, ?_, boolsOf_map (fun _ : Nat => true) (List.range xs.length)⟩
      have := lcS_map (tg := .nm 2) (tst := evTs .nil) (elt := (ev (.call "_law_alike" (denF f__law_aliker1) (.cons (.ix (.v 0) (.v 2)) (.cons (.ix (.v 1) (.v 2)) .nil)) .nil [])).e) (ρ := [some (.lst xs), some (.lst xs), none]) (μ := []) (fun t : Nat => .int (0 + (t : Int))) (fun t => [some (.lst xs), some (.lst xs), some (.int (0 + (t : Int)))]) (fun t => .bl true) (List.range xs.length) [] (fun t ht => by
        have ht := List.mem_range.mp ht
        have e0 : (0 : Int) + (t : Int) = (t : Int) := by omega
        have a1 := ixl [] ht
        have hk := hx xs[t] (List.getElem_mem ht)
        have s1 : callD (denF f__law_aliker1) [xs[t], xs[t]] [] = .ok (.bl true) [] := call0 (r__law_aliker1 hk) (by simp only [frzL, hk.frz]) (by simp only [noPtrL, hk.noPtr]; rfl) rfl rfl
        rw [e0]
        generalize xs[t] = x at *
        simp [-callD, a1, s1]) (by simp; omega)
      refine lc_of (ds := rangeL 0 1 xs.length) (lv := []) (μ1 := []) (by simp [rangeD, small62_nat (i := (xs.length : Int)) (by omega) (by omega)]) ?_
      rw [rangeL_eq]
      refine Eq.trans this ?_
      rw [List.nil_append]
    obtain ⟨bs, h1, h2⟩ := hc
    unfold runF
    simp [f__law_aliker2, hasTy, mapO, q1, q0, h1, h2]
  | tup hl hx =>
    rename_i xs
    have hc : ∃ bs, (ev f__law_aliker2_c0).e [some (.tup xs), some (.tup xs), none] [] = .ok (.new bs) [] ∧ boolsOf bs = some ((List.range xs.length).map fun _ => true) := by
      refine ⟨_, ?_, boolsOf_map (fun _ : Nat => true) (List.range xs.length)⟩
      have := lcS_map (tg := .nm 2) (tst := evTs .nil) (elt := (ev (.call "_law_alike" (denF f__law_aliker1) (.cons (.ix (.v 0) (.v 2)) (.cons (.ix (.v 1) (.v 2)) .nil)) .nil [])).e) (ρ := [some (.tup xs), some (.tup xs), none]) (μ := []) (fun t : Nat => .int (0 + (t : Int))) (fun t => [some (.tup xs), some (.tup xs), some (.int (0 + (t : Int)))]) (fun t => .bl true) (List.range xs.length) [] (fun t ht => by
        have ht := List.mem_range.mp ht
        have e0 : (0 : Int) + (t : Int) = (t : Int) := by omega
        have a1 := ixl [] ht
        have hk := hx xs[t] (List.getElem_mem ht)
        have s1 : callD (denF f__law_aliker1) [xs[t], xs[t]] [] = .ok (.bl true) [] := call0 (r__law_aliker1 hk) (by simp only [frzL, hk.frz]) (by simp only [noPtrL, hk.noPtr]; rfl) rfl rfl
        rw [e0]
        generalize xs[t] = x at *
        simp [-callD, a1, s1]) (by simp; omega)
      refine lc_of (ds := rangeL 0 1 xs.length) (lv := []) (μ1 := []) (by simp [rangeD, small62_nat (i := (xs.length : Int)) (by omega) (by omega)]) ?_
      rw [rangeL_eq]
      refine Eq.trans this ?_
      rw [List.nil_append]
    obtain ⟨bs, h1, h2⟩ := hc
    unfold runF
    simp [f__law_aliker2, hasTy, mapO, q1, q0, h1, h2]
theorem r__law_aliker3 {d : D} (h : Lk 3 d) : runF f__law_aliker3 [d, d] [] = .ok (.bl true) [] := by
  have q1 := fun μ => eq_bl μ true
  have q0 := fun μ => eq_bl μ false
  have qn := eq_non
  cases h with
  | non => unfold runF; simp [f__law_aliker3, hasTy, mapO, q0, qn]
  | bl _ b =>
    have qb := fun μ => eq_bl μ b
    unfold runF; simp [f__law_aliker3, hasTy, mapO, q1, q0, qb]
  | int _ i => unfold runF; simp [f__law_aliker3, hasTy, mapO, q1, q0]
  | lst hl hx =>
    rename_i xs
    have hc : ∃ bs, (ev f__law_aliker3_c0).e [some (.lst xs), some (.lst xs), none] [] = .ok (.new bs) [] ∧ boolsOf bs = some ((List.range xs.length).map fun _ => true) := by
      refine ⟨_, ?_, boolsOf_map (fun _ : Nat => true) (List.range xs.length)⟩
      have := lcS_map (tg := .nm 2) (tst := evTs .nil) (elt := (ev (.call "_law_alike" (denF f__law_aliker2) (.cons (.ix (.v 0) (.v 2)) (.cons (.ix (.v 1) (.v 2)) .nil)) .nil [])).e) (ρ := [some (.lst xs), some (.lst xs), none]) (μ := []) (fun t : Nat => .int (0 + (t : Int))) (fun t => [some (.lst xs), some (.lst xs), some (.int (0 + (t : Int)))]) (fun t => .bl true) (List.range xs.length) [] (fun t ht => by
        have ht := List.mem_range.mp ht
        have e0 : (0 : Int) + (t : Int) = (t : Int) := by omega
        have a1 := ixl [] ht
        have hk := hx xs[t] (List.getElem_mem ht)
        have s1 : callD (denF f__law_aliker2) [xs[t], xs[t]] [] = .ok (.bl true) [] := call0 (r__law_aliker2 hk) (by simp only [frzL, hk.frz]) (by simp only [noPtrL, hk.noPtr]; rfl) rfl rfl
        rw [e0]
        generalize xs[t] = x at *
        simp [-callD, a1, s1]) (by simp; omega)
      refine lc_of (ds := rangeL 0 1 xs.length) (lv := []) (μ1 := []) (by simp [rangeD, small62_nat (i := (xs.length : Int)) (by omega) (by omega)]) ?_
      rw [rangeL_eq]
      refine Eq.trans this ?_
      rw [List.nil_append]
    obtain ⟨bs, h1, h2⟩ := hc
    unfold runF
    simp [f__law_aliker3, hasTy, mapO, q1, q0, h1, h2]
  | tup hl hx =>
    rename_i xs
    have hc : ∃ bs, (ev f__law_aliker3_c0).e [some (.tup xs), some (.tup xs), none] [] = .ok (.new bs) [] ∧ boolsOf bs = some ((List.range xs.length).map fun _ => true) := by
      refine ⟨_, ?_, boolsOf_map (fun _ : Nat => true) (List.range xs.length)⟩
      have := lcS_map (tg := .nm 2) (tst := evTs .nil) (elt := (ev (.call "_law_alike" (denF f__law_aliker2) (.cons (.ix (.v 0) (.v 2)) (.cons (.ix (.v 1) (.v 2)) .nil)) .nil [])).e) (ρ := [some (.tup xs), some (.tup xs), none]) (μ := []) (fun t : Nat => .int (0 + (t : Int))) (fun t => [some (.tup xs), some (.tup xs), some (.int (0 + (t : Int)))]) (fun t => .bl true) (List.range xs.length) [] (fun t ht => by
        have ht := List.mem_range.mp ht
        have e0 : (0 : Int) + (t : Int) = (t : Int) := by omega
        have a1 := ixl [] ht
        have hk := hx xs[t] (List.getElem_mem ht)
        have s1 : callD (denF f__law_aliker2) [xs[t], xs[t]] [] = .ok (.bl true) [] := call0 (r__law_aliker2 hk) (by simp only [frzL, hk.frz]) (by simp only [noPtrL, hk.noPtr]; rfl) rfl rfl
        rw [e0]
        generalize xs[t] = x at *
        simp [-callD, a1, s1]) (by simp; omega)
      refine lc_of (ds := rangeL 0 1 xs.length) (lv := []) (μ1 := []) (by simp [rangeD, small62_nat (i := (xs.length : Int)) (by omega) (by omega)]) ?_
      rw [rangeL_eq]
      refine Eq.trans this ?_
      rw [List.nil_append]
    obtain ⟨bs, h1, h2⟩ := hc
    unfold runF
    simp [f__law_aliker3, hasTy, mapO, q1, q0, h1, h2]
theorem r__law_aliker4 {d : D} (h : Lk 4 d) : runF f__law_aliker4 [d, d] [] = .ok (.bl true) [] := by
  have q1 := fun μ => eq_bl μ true
  have q0 := fun μ => eq_bl μ false
  have qn := eq_non
  cases h with
  | non => unfold runF; simp [f__law_aliker4, hasTy, mapO, q0, qn]
  | bl _ b =>
    have qb := fun μ => eq_bl μ b
    unfold runF; simp [f__law_aliker4, hasTy, mapO, q1, q0, qb]
  | int _ i => unfold runF; simp [f__law_aliker4, hasTy, mapO, q1, q0]
  | lst hl hx =>
    rename_i xs
    have hc : ∃ bs, (ev f__law_aliker4_c0).e [some (.lst xs), some (.lst xs), none] [] = .ok (.new bs) [] ∧ boolsOf bs = some ((List.range xs.length).map fun _ => true) := by
      refine ⟨_, ?_, boolsOf_map (fun _ : Nat => true) (List.range xs.length)⟩
      have := lcS_map (tg := .nm 2) (tst := evTs .nil) (elt := (ev (.call "_law_alike" (denF f__law_aliker3) (.cons (.ix (.v 0) (.v 2)) (.cons (.ix (.v 1) (.v 2)) .nil)) .nil [])).e) (ρ := [some (.lst xs), some (.lst xs), none]) (μ := []) (fun t : Nat => .int (0 + (t : Int))) (fun t => [some (.lst xs), some (.lst xs), some (.int (0 + (t : Int)))]) (fun t => .bl true) (List.range xs.length) [] (fun t ht => by
        have ht := List.mem_range.mp ht
        have e0 : (0 : Int) + (t : Int) = (t : Int) := by omega
        have a1 := ixl [] ht
        have hk := hx xs[t] (List.getElem_mem ht)
        have s1 : callD (denF f__law_aliker3) [xs[t], xs[t]] [] = .ok (.bl true) [] := call0 (r__law_aliker3 hk) (by simp only [frzL, hk.frz]) (by simp only [noPtrL, hk.noPtr]; rfl) rfl rfl
        rw [e0]
        generalize xs[t] = x at *
        simp [-callD, a1, s1]) (by simp; omega)
      refine lc_of (ds := rangeL 0 1 xs.length) (lv := []) (μ1 := []) (by simp [rangeD, small62_nat (i := (xs.length : Int)) (by omega) (by omega)]) ?_
      rw [rangeL_eq]
      refine Eq.trans this ?_
      rw [List.nil_append]
    obtain ⟨bs, h1, h2⟩ := hc
    unfold runF
    simp [f__law_aliker4, hasTy, mapO, q1, q0, h1, h2]
  | tup hl hx =>
    rename_i xs
    have hc : ∃ bs, (ev f__law_aliker4_c0).e [some (.tup xs), some (.tup xs), none] [] = .ok (.new bs) [] ∧ boolsOf bs = some ((List.range xs.length).map fun _ => true) := by
      refine ⟨_, ?_, boolsOf_map (fun _ : Nat => true) (List.range xs.length)⟩
      have := lcS_map (tg := .nm 2) (tst := evTs .nil) (elt := (ev (.call "_law_alike" (denF f__law_aliker3) (.cons (.ix (.v 0) (.v 2)) (.cons (.ix (.v 1) (.v 2)) .nil)) .nil [])).e) (ρ := [some (.tup xs), some (.tup xs), none]) (μ := []) (fun t : Nat => .int (0 + (t : Int))) (fun t => [some (.tup xs), some (.tup xs), some (.int (0 + (t : Int)))]) (fun t => .bl true) (List.range xs.length) [] (fun t ht => by
        have ht := List.mem_range.mp ht
        have e0 : (0 : Int) + (t : Int) = (t : Int) := by omega
        have a1 := ixl [] ht
        have hk := hx xs[t] (List.getElem_mem ht)
        have s1 : callD (denF f__law_aliker3) [xs[t], xs[t]] [] = .ok (.bl true) [] := call0 (r__law_aliker3 hk) (by simp only [frzL, hk.frz]) (by simp only [noPtrL, hk.noPtr]; rfl) rfl rfl
        rw [e0]
        generalize xs[t] = x at *
        simp [-callD, a1, s1]) (by simp; omega)
      refine lc_of (ds := rangeL 0 1 xs.length) (lv := []) (μ1 := []) (by simp [rangeD, small62_nat (i := (xs.length : Int)) (by omega) (by omega)]) ?_
      rw [rangeL_eq]
      refine Eq.trans this ?_
      rw [List.nil_append]
    obtain ⟨bs, h1, h2⟩ := hc
    unfold runF
    simp [f__law_aliker4, hasTy, mapO, q1, q0, h1, h2]
theorem r__law_aliker5 {d : D} (h : Lk 5 d) : runF f__law_aliker5 [d, d] [] = .ok (.bl true) [] := by
  have q1 := fun μ => eq_bl μ true
  have q0 := fun μ => eq_bl μ false
  have qn := eq_non
  cases h with
  | non => unfold runF; simp [f__law_aliker5, hasTy, mapO, q0, qn]
  | bl _ b =>
    have qb := fun μ => eq_bl μ b
    unfold runF; simp [f__law_aliker5, hasTy, mapO, q1, q0, qb]
  | int _ i => unfold runF; simp [f__law_aliker5, hasTy, mapO, q1, q0]
  | lst hl hx =>
    rename_i xs
    have hc : ∃ bs, (ev f__law_aliker5_c0).e [some (.lst xs), some (.lst xs), none] [] = .ok (.new bs) [] ∧ boolsOf bs = some ((List.range xs.length).map fun _ => true) := by
      refine ⟨_, ?_, boolsOf_map (fun _ : Nat => true) (List.range xs.length)⟩
      have := lcS_map (tg := .nm 2) (tst := evTs .nil) (elt := (ev (.call "_law_alike" (denF f__law_aliker4) (.cons (.ix (.v 0) (.v 2)) (.cons (.ix (.v 1) (.v 2)) .nil)) .nil [])).e) (ρ := [some (.lst xs), some (.lst xs), none]) (μ := []) (fun t : Nat => .int (0 + (t : Int))) (fun t => [some (.lst xs), some (.lst xs), some (.int (0 + (t : Int)))]) (fun t => .bl true) (List.range xs.length) [] (fun t ht => by
        have ht := List.mem_range.mp ht
        have e0 : (0 : Int) + (t : Int) = (t : Int) := by omega
        have a1 := ixl [] ht
        have hk := hx xs[t] (List.getElem_mem ht)
        have s1 : callD (denF f__law_aliker4) [xs[t], xs[t]] [] = .ok (.bl true) [] := call0 (r__law_aliker4 hk) (by simp only [frzL, hk.frz]) (by simp only [noPtrL, hk.noPtr]; rfl) rfl rfl
        rw [e0]
        generalize xs[t] = x at *
        simp [-callD, a1, s1]) (by simp; omega)
      refine lc_of (ds := rangeL 0 1 xs.length) (lv := []) (μ1 := []) (by simp [rangeD, small62_nat (i := (xs.length : Int)) (by omega) (by omega)]) ?_
      rw [rangeL_eq]
      refine Eq.trans this ?_
      rw [List.nil_append]
    obtain ⟨bs, h1, h2⟩ := hc
    unfold runF
    simp [f__law_aliker5, hasTy, mapO, q1, q0, h1, h2]
  | tup hl hx =>
    rename_i xs
    have hc : ∃ bs, (ev f__law_aliker5_c0).e [some (.tup xs), some (.tup xs), none] [] = .ok (.new bs) [] ∧ boolsOf bs = some ((List.range xs.length).map fun _ => true) := by
      refine ⟨_, ?_, boolsOf_map (fun _ : Nat => true) (List.range xs.length)⟩
      have := lcS_map (tg := .nm 2) (tst := evTs .nil) (elt := (ev (.call "_law_alike" (denF f__law_aliker4) (.cons (.ix (.v 0) (.v 2)) (.cons (.ix (.v 1) (.v 2)) .nil)) .nil [])).e) (ρ := [some (.tup xs), some (.tup xs), none]) (μ := []) (fun t : Nat => .int (0 + (t : Int))) (fun t => [some (.tup xs), some (.tup xs), some (.int (0 + (t : Int)))]) (fun t => .bl true) (List.range xs.length) [] (fun t ht => by
        have ht := List.mem_range.mp ht
        have e0 : (0 : Int) + (t : Int) = (t : Int) := by omega
        have a1 := ixl [] ht
        have hk := hx xs[t] (List.getElem_mem ht)
        have s1 : callD (denF f__law_aliker4) [xs[t], xs[t]] [] = .ok (.bl true) [] := call0 (r__law_aliker4 hk) (by simp only [frzL, hk.frz]) (by simp only [noPtrL, hk.noPtr]; rfl) rfl rfl
        rw [e0]
        generalize xs[t] = x at *
        simp [-callD, a1, s1]) (by simp; omega)
      refine lc_of (ds := rangeL 0 1 xs.length) (lv := []) (μ1 := []) (by simp [rangeD, small62_nat (i := (xs.length : Int)) (by omega) (by omega)]) ?_
      rw [rangeL_eq]
      refine Eq.trans this ?_
      rw [List.nil_append]
    obtain ⟨bs, h1, h2⟩ := hc
    unfold runF
    simp [f__law_aliker5, hasTy, mapO, q1, q0, h1, h2]
theorem r__law_alike {d : D} (h : Lk 6 d) : runF f__law_alike [d, d] [] = .ok (.bl true) [] := by
  have q1 := fun μ => eq_bl μ true
  have q0 := fun μ => eq_bl μ false
  have qn := eq_non
  cases h with
  | non => unfold runF; simp [f__law_alike, hasTy, mapO, q0, qn]
  | bl _ b =>
    have qb := fun μ => eq_bl μ b
    unfold runF; simp [f__law_alike, hasTy, mapO, q1, q0, qb]
  | int _ i => unfold runF; simp [f__law_alike, hasTy, mapO, q1, q0]
  | lst hl hx =>
    rename_i xs
    have hc : ∃ bs, (ev f__law_alike_c0).e [some (.lst xs), some (.lst xs), none] [] = .ok (.new bs) [] ∧ boolsOf bs = some ((List.range xs.length).map fun _ => true) := by
      refine ⟨_, ?_, boolsOf_map (fun _ : Nat => true) (List.range xs.length)⟩
      have := lcS_map (tg := .nm 2) (tst := evTs .nil) (elt := (ev (.call "_law_alike" (denF f__law_aliker5) (.cons (.ix (.v 0) (.v 2)) (.cons (.ix (.v 1) (.v 2)) .nil)) .nil [])).e) (ρ := [some (.lst xs), some (.lst xs), none]) (μ := []) (fun t : Nat => .int (0 + (t : Int))) (fun t => [some (.lst xs), some (.lst xs), some (.int (0 + (t : Int)))]) (fun t => .bl true) (List.range xs.length) [] (fun t ht => by
        have ht := List.mem_range.mp ht
        have e0 : (0 : Int) + (t : Int) = (t : Int) := by omega
        have a1 := ixl [] ht
        have hk := hx xs[t] (List.getElem_mem ht)
        have s1 : callD (denF f__law_aliker5) [xs[t], xs[t]] [] = .ok (.bl true) [] := call0 (r__law_aliker5 hk) (by simp only [frzL, hk.frz]) (by simp only [noPtrL, hk.noPtr]; rfl) rfl rfl
        rw [e0]
        generalize xs[t] = x at *
        simp [-callD, a1, s1]) (by simp; omega)
      refine lc_of (ds := rangeL 0 1 xs.length) (lv := []) (μ1 := []) (by simp [rangeD, small62_nat (i := (xs.length : Int)) (by omega) (by omega)]) ?_
      rw [rangeL_eq]
      refine Eq.trans this ?_
      rw [List.nil_append]
    obtain ⟨bs, h1, h2⟩ := hc
    unfold runF
    simp [f__law_alike, hasTy, mapO, q1, q0, h1, h2]
  | tup hl hx =>
    rename_i xs
    have hc : ∃ bs, (ev f__law_alike_c0).e [some (.tup xs), some (.tup xs), none] [] = .ok (.new bs) [] ∧ boolsOf bs = some ((List.range xs.length).map fun _ => true) := by
      refine ⟨_, ?_, boolsOf_map (fun _ : Nat => true) (List.range xs.length)⟩
      have := lcS_map (tg := .nm 2) (tst := evTs .nil) (elt := (ev (.call "_law_alike" (denF f__law_aliker5) (.cons (.ix (.v 0) (.v 2)) (.cons (.ix (.v 1) (.v 2)) .nil)) .nil [])).e) (ρ := [some (.tup xs), some (.tup xs), none]) (μ := []) (fun t : Nat => .int (0 + (t : Int))) (fun t => [some (.tup xs), some (.tup xs), some (.int (0 + (t : Int)))]) (fun t => .bl true) (List.range xs.length) [] (fun t ht => by
        have ht := List.mem_range.mp ht
        have e0 : (0 : Int) + (t : Int) = (t : Int) := by omega
        have a1 := ixl [] ht
        have hk := hx xs[t] (List.getElem_mem ht)
        have s1 : callD (denF f__law_aliker5) [xs[t], xs[t]] [] = .ok (.bl true) [] := call0 (r__law_aliker5 hk) (by simp only [frzL, hk.frz]) (by simp only [noPtrL, hk.noPtr]; rfl) rfl rfl
        rw [e0]
        generalize xs[t] = x at *
        simp [-callD, a1, s1]) (by simp; omega)
      refine lc_of (ds := rangeL 0 1 xs.length) (lv := []) (μ1 := []) (by simp [rangeD, small62_nat (i := (xs.length : Int)) (by omega) (by omega)]) ?_
      rw [rangeL_eq]
      refine Eq.trans this ?_
      rw [List.nil_append]
    obtain ⟨bs, h1, h2⟩ := hc
    unfold runF
    simp [f__law_alike, hasTy, mapO, q1, q0, h1, h2]
theorem alikeC {d e : D} {x : D} (hx : Lk 6 x) (hd : frz d = x) (he : frz e = x) (μ : Store) : callD (denF f__law_alike) [d, e] μ = .ok (.bl true) μ :=
  call0 (es := [x, x]) (r__law_alike hx) (by simp only [frzL, hd, he]) (by simp only [noPtrL, hx.noPtr]; rfl) rfl rfl
/-! cups to and fro, in whole numbers with one sum -/
def mixU (q p : Int) (u v : List Int) : List Int := (u.zip v).map fun z => q * z.1 + p * z.2
theorem mixU_len {q p : Int} {u v : List Int} (h : u.length = v.length) : (mixU q p u v).length = u.length := by simp [mixU, h]
theorem mixU_at {q p : Int} {u v : List Int} (h : u.length = v.length) (i : Nat) (hi : i < u.length) : (mixU q p u v)[i]?.getD 0 = q * (u[i]?.getD 0) + p * (v[i]?.getD 0) := by
  have hv : i < v.length := by omega
  have hz : (u.zip v)[i]? = some (u[i], v[i]) := by
    rw [List.getElem?_eq_getElem (by simp; omega)]
    simp
  simp [mixU, hi, hv, hz]
theorem mixU_sum (q p : Int) : ∀ (u v : List Int), u.length = v.length → (mixU q p u v).sum = q * u.sum + p * v.sum
  | [], [], _ => by simp [mixU]
  | x :: u, y :: v, h => by
    have := mixU_sum q p u v (by simpa using h)
    have e : mixU q p (x :: u) (y :: v) = (q * x + p * y) :: mixU q p u v := rfl
    rw [e, List.sum_cons, this, List.sum_cons, List.sum_cons]
    grind
  | [], y :: v, h => by simp at h
  | x :: u, [], h => by simp at h
theorem mixU_nn {q p : Int} {u v : List Int} (hq : 0 ≤ q) (hp : 0 ≤ p) (hu : ∀ x ∈ u, 0 ≤ x) (hv : ∀ x ∈ v, 0 ≤ x) : ∀ x ∈ mixU q p u v, 0 ≤ x := fun x hx => by
  obtain ⟨z, hz, rfl⟩ := List.mem_map.mp hx
  have := List.of_mem_zip (show (z.1, z.2) ∈ _ from hz)
  exact Int.add_nonneg (Int.mul_nonneg hq (hu _ this.1)) (Int.mul_nonneg hp (hv _ this.2))
theorem mixU_scale (q p k : Int) (u v : List Int) : mixU q p (u.map (k * ·)) (v.map (k * ·)) = (mixU q p u v).map (k * ·) := by
  unfold mixU
  rw [List.zip_map, List.map_map, List.map_map]
  refine List.map_congr_left fun z _ => ?_
  show q * (k * z.1) + p * (k * z.2) = k * (q * z.1 + p * z.2)
  grind
def UV (q p : Int) (u v : List Int) : Nat → List Int × List Int
  | 0 => (u, v)
  | j + 1 => (mixU q p (UV q p u v j).1 (UV q p u v j).2, mixU q p (UV q p u v j).2 (UV q p u v j).1)
/-- two rows of numbers, none below 0, with one sum -/
structure Tw (m : Nat) (s : Int) (u v : List Int) : Prop where
  lu : u.length = m
  lv : v.length = m
  nu : ∀ x ∈ u, 0 ≤ x
  nv : ∀ x ∈ v, 0 ≤ x
  su : u.sum = s
  sv : v.sum = s
theorem Tw.step {m : Nat} {s q p : Int} {u v : List Int} (h : Tw m s u v) (hq : 0 ≤ q) (hp : 0 ≤ p) : Tw m ((q + p) * s) (mixU q p u v) (mixU q p v u) := by
  have l1 : u.length = v.length := by rw [h.lu, h.lv]
  refine ⟨by rw [mixU_len l1]; exact h.lu, by rw [mixU_len l1.symm]; exact h.lv, mixU_nn hq hp h.nu h.nv, mixU_nn hq hp h.nv h.nu, ?_, ?_⟩
  · rw [mixU_sum q p u v l1, h.su, h.sv]; grind
  · rw [mixU_sum q p v u l1.symm, h.su, h.sv]; grind
theorem Tw.all {m : Nat} {s q p : Int} {u v : List Int} (h : Tw m s u v) (hq : 0 ≤ q) (hp : 0 ≤ p) : ∀ j : Nat, Tw m ((q + p) ^ j * s) (UV q p u v j).1 (UV q p u v j).2
  | 0 => by simpa [UV] using h
  | j + 1 => by
    have := (Tw.all h hq hp j).step hq hp
    have e : (q + p) ^ (j + 1) * s = (q + p) * ((q + p) ^ j * s) := by rw [Int.pow_succ]; grind
    rw [e]
    exact this
/-- the greatest difference -/
def dmax (u v : List Int) : Int := maxL ((u.zip v).map fun z => absI (z.1 - z.2))
theorem dmax_range {m : Nat} {u v : List Int} (hu : u.length = m) (hv : v.length = m) : (u.zip v).map (fun z => absI (z.1 - z.2)) = (List.range m).map fun i => absI (u[i]?.getD 0 - v[i]?.getD 0) := by
  have := zip_at (xs := u) (ys := v) (fun z => absI (z.1 - z.2)) (fun i => absI (u[i]?.getD 0 - v[i]?.getD 0)) (by rw [hu, hv]) fun i hi => rfl
  rw [hu] at this
  exact this
theorem dmax_step {m : Nat} {s q p : Int} {u v : List Int} (h : Tw m s u v) (hqp : 0 ≤ q - p) : dmax (mixU q p u v) (mixU q p v u) = (q - p) * dmax u v := by
  have l1 : u.length = v.length := by rw [h.lu, h.lv]
  unfold dmax
  rw [dmax_range (m := m) (by rw [mixU_len l1]; exact h.lu) (by rw [mixU_len l1.symm]; exact h.lv), dmax_range h.lu h.lv, ← maxL_scale hqp, List.map_map]
  congr 1
  refine List.map_congr_left fun i hi => ?_
  have hi := List.mem_range.mp hi
  rw [mixU_at l1 i (by rw [h.lu]; exact hi), mixU_at l1.symm i (by rw [h.lv]; exact hi)]
  show _ = (q - p) * absI _
  rw [← absI_mul hqp]
  congr 1
  grind
theorem dmax_all {m : Nat} {s q p : Int} {u v : List Int} (h : Tw m s u v) (hq : 0 ≤ q) (hp : 0 ≤ p) (hqp : 0 ≤ q - p) : ∀ j : Nat, dmax (UV q p u v j).1 (UV q p u v j).2 = (q - p) ^ j * dmax u v
  | 0 => by simp [UV]
  | j + 1 => by
    have := dmax_step (h.all hq hp j) hqp
    rw [dmax_all h hq hp hqp j] at this
    rw [Int.pow_succ]
    show dmax (mixU q p _ _) (mixU q p _ _) = _
    rw [this]
    grind
/-- the difference of what is left without divisors -/
theorem apart_plain {m : Nat} {s : Int} {u v : List Int} (h : Tw m s u v) (hs : 0 < s) : apart (plain u) (plain v) * s = dmax u v * ((plain u).sum * (plain v).sum) ∧ 0 < (plain u).sum * (plain v).sum := by
  obtain ⟨pu, g0⟩ := plain_sum_pos h.nu (by rw [h.su]; exact hs)
  obtain ⟨pv, h0⟩ := plain_sum_pos h.nv (by rw [h.sv]; exact hs)
  have eu := plain_mul h.nu
  have ev := plain_mul h.nv
  have su := sum_mul (gl 0 u) (plain u)
  have sv := sum_mul (gl 0 v) (plain v)
  rw [eu, h.su] at su
  rw [ev, h.sv] at sv
  have au := fun i => map_at (gl 0 u) (plain u) i
  have av := fun i => map_at (gl 0 v) (plain v) i
  rw [eu] at au
  rw [ev] at av
  have lu : (plain u).length = m := by simp [plain, h.lu]
  have lv : (plain v).length = m := by simp [plain, h.lv]
  generalize gl 0 u = g at *
  generalize gl 0 v = k at *
  generalize hA : (plain u).sum = A at *
  generalize hB : (plain v).sum = B at *
  have hgk : 0 < g * k := Int.mul_pos g0 h0
  refine ⟨?_, Int.mul_pos pu pv⟩
  have e1 : g * k * apart (plain u) (plain v) = s * dmax u v := by
    unfold apart dmax
    rw [hA, hB]
    rw [zip_at (xs := plain u) (ys := plain v) (fun z => absI (dif B A z)) (fun i => absI (dif B A ((plain u)[i]?.getD 0, (plain v)[i]?.getD 0))) (by rw [lu, lv]) (fun i hi => rfl), dmax_range h.lu h.lv, ← maxL_scale (Int.le_of_lt hgk), ← maxL_scale (Int.le_of_lt hs), List.map_map, List.map_map, lu]
    congr 1
    refine List.map_congr_left fun i hi => ?_
    show g * k * absI (dif B A _) = s * absI (_ - _)
    rw [← absI_mul (Int.le_of_lt hgk), ← absI_mul (Int.le_of_lt hs), au i, av i]
    congr 1
    unfold dif
    simp only
    generalize (plain u)[i]?.getD 0 = x at *
    generalize (plain v)[i]?.getD 0 = y at *
    have e2 : s * (g * x) = g * k * (x * B) := by rw [sv]; grind
    have e3 : s * (k * y) = g * k * (y * A) := by rw [su]; grind
    grind
  have e4 : g * k * (A * B) = s * s := by grind
  have e5 : g * k * (apart (plain u) (plain v) * s) = g * k * (dmax u v * (A * B)) := by
    have : g * k * (apart (plain u) (plain v) * s) = (g * k * apart (plain u) (plain v)) * s := by grind
    rw [this, e1]
    have : g * k * (dmax u v * (A * B)) = dmax u v * (g * k * (A * B)) := by grind
    rw [this, e4]
    grind
  exact Int.eq_of_mul_eq_mul_left (by omega) e5
def Cup (p : Int × Int) : Prop := 1 ≤ p.1 ∧ p.1 ≤ p.2 ∧ p.2 ≤ 100 ∧ Int.gcd p.1 p.2 = 1
theorem c_is_cup (f : Int × Int) : (ev f_is_cup_c0).e [some (dP f), none] [] = .ok (.new [.bl true, .bl true]) [] := by
  simp [f_is_cup_c0, dP, lcS]
theorem r_need_cup {f : Int × Int} (h : Cup f) : runF f_need_cup [dP f] [] = .ok .non [] := by
  obtain ⟨h1, h2, h3, h5⟩ := h
  have hl : f.2.natAbs.log2 < 9000 := log_of' (n := 20) (by omega) (by omega)
  have c := c_is_cup f
  have e : runF f_is_cup [dP f] [] = .ok (.bl true) [] := by
    simp only [dP] at c ⊢
    unfold runF
    simp [f_is_cup, c, boolsOf, h1, h2, h3, r_common_divisor, hl, h5]
  have e1 : callD (denF f_is_cup) [dP f] [] = .ok (.bl true) [] := call0 e rfl (by simp) rfl rfl
  unfold runF
  simp [f_need_cup, -callD, e1]
theorem r_need_two_pots {c d : List Int} {m B : Nat} (hc : Ct m B c) (hd : Ct m B d) (m1 : 1 ≤ m) (m8 : m ≤ 8) (hB : B ≤ 7000) : runF f_need_two_pots [.lst (dI c), .lst (dI d)] [] = .ok .non [] := by
  have e1 : ∀ μ, callD (denF f_need_content) [.lst (dI c)] μ = .ok .non μ := fun μ => call0 (r_need_content hc (by omega) m8 (by omega)) rfl (by simp) rfl rfl
  have e2 : ∀ μ, callD (denF f_need_content) [.lst (dI d)] μ = .ok .non μ := fun μ => call0 (r_need_content hd (by omega) m8 (by omega)) rfl (by simp) rfl rfl
  have l1 : (dI c).length = m := by simp [dI, hc.len]
  have l2 : (dI d).length = m := by simp [dI, hd.len]
  generalize dI c = C at *
  generalize dI d = D at *
  unfold runF
  simp [f_need_two_pots, -callD, e1, e2, l1, l2]
/-! comprehensions over two lists -/
theorem lc_z {elt ex ey : E} {r0 r1 r2 r3 r4 r5 r6 r7 r8 r9 r10 : Option D} {X Y : List Int} {μ : Store} (f : Int × Int → Int) (hl : X.length ≤ 1000)
    (hx : (ev ex).e [r0, r1, r2, r3, r4, r5, r6, r7, r8, r9, r10, none, none] μ = .ok (.lst (dI X)) μ) (hy : (ev ey).e [r0, r1, r2, r3, r4, r5, r6, r7, r8, r9, r10, none, none] μ = .ok (.lst (dI Y)) μ)
    (he : ∀ z ∈ X.zip Y, (ev elt).e [r0, r1, r2, r3, r4, r5, r6, r7, r8, r9, r10, some (.int z.1), some (.int z.2)] μ = .ok (.int (f z)) μ) :
    (ev (.lc elt (.tp [11, 12]) (.zip ex ey) .nil)).e [r0, r1, r2, r3, r4, r5, r6, r7, r8, r9, r10, none, none] μ = .ok (.new (dI ((X.zip Y).map f))) μ := by
  have := lcS_map (tg := .tp [11, 12]) (tst := evTs .nil) (elt := (ev elt).e) (ρ := [r0, r1, r2, r3, r4, r5, r6, r7, r8, r9, r10, none, none]) (μ := μ) (fun z : Int × Int => .tup [.int z.1, .int z.2]) (fun z => [r0, r1, r2, r3, r4, r5, r6, r7, r8, r9, r10, some (.int z.1), some (.int z.2)]) (fun z => .int (f z)) (X.zip Y) [] (fun z hz => by
    refine ⟨by simp, by simp, he z hz⟩) (by simp; omega)
  refine lc_of (ds := (X.zip Y).map fun z => .tup [.int z.1, .int z.2]) (lv := []) (μ1 := μ) (by simp [hx, hy, zip_ints]) ?_
  refine Eq.trans this ?_
  simp [dI, Function.comp_def]
theorem lc_s {elt ex : E} {r0 r1 r2 r3 r4 r5 r6 r7 r8 r9 r10 : Option D} {X : List Int} {μ : Store} (f : Int → Int) (hl : X.length ≤ 1000)
    (hx : (ev ex).e [r0, r1, r2, r3, r4, r5, r6, r7, r8, r9, r10, none, none] μ = .ok (.lst (dI X)) μ)
    (he : ∀ z ∈ X, (ev elt).e [r0, r1, r2, r3, r4, r5, r6, r7, r8, r9, r10, some (.int z), none] μ = .ok (.int (f z)) μ) :
    (ev (.lc elt (.nm 11) (.seq ex) .nil)).e [r0, r1, r2, r3, r4, r5, r6, r7, r8, r9, r10, none, none] μ = .ok (.new (dI (X.map f))) μ := by
  have := lcS_map (tg := .nm 11) (tst := evTs .nil) (elt := (ev elt).e) (ρ := [r0, r1, r2, r3, r4, r5, r6, r7, r8, r9, r10, none, none]) (μ := μ) (fun z : Int => .int z) (fun z => [r0, r1, r2, r3, r4, r5, r6, r7, r8, r9, r10, some (.int z), none]) (fun z => .int (f z)) X [] (fun z hz => by
    refine ⟨by simp, by simp, he z hz⟩) (by simp; omega)
  refine lc_of (ds := dI X) (lv := []) (μ1 := μ) (by simp [hx]) ?_
  refine Eq.trans this ?_
  simp [dI, Function.comp_def]
/-! the program -/
/-- what fewest_cups answers -/
def cuD (A : Int) (p f : Int × Int) (J : Nat) : D := if f.1 = 0 ∧ 0 < A ∧ p.1 < p.2 then .non else .int (J : Int)
theorem frz_cuD (A : Int) (p f : Int × Int) (J : Nat) : frz (cuD A p f J) = cuD A p f J := by unfold cuD; split <;> rfl
theorem noPtr_cuD (k : Nat) (A : Int) (p f : Int × Int) (J : Nat) : noPtr k (cuD A p f J) = true := by unfold cuD; split <;> rfl
theorem Lk_cuD (n : Nat) (A : Int) (p f : Int × Int) (J : Nat) : Lk n (cuD A p f J) := by unfold cuD; split; exact .non n; exact .int n _
theorem cups_jex {A b : Int} {p f : Int × Int} (hp : Cup p) (hA : 0 ≤ A) (hAb : A ≤ b) (f0 : 0 ≤ f.1) (f1 : 0 < f.2) (f2 : f.2 ≤ 1000000) (hne : ¬ (f.1 = 0 ∧ 0 < A ∧ p.1 < p.2)) : ∃ J, J ≤ 1500 ∧ ¬ cnd A b (p.2 - p.1) (p.2 + p.1) f J ∧ ∀ i, i < J → cnd A b (p.2 - p.1) (p.2 + p.1) f i := by
  obtain ⟨k1, k2, k3, _⟩ := hp
  have go : ∀ N, N ≤ 1500 → ¬ cnd A b (p.2 - p.1) (p.2 + p.1) f N → ∃ J, J ≤ 1500 ∧ ¬ cnd A b (p.2 - p.1) (p.2 + p.1) f J ∧ ∀ i, i < J → cnd A b (p.2 - p.1) (p.2 + p.1) f i := fun N hN h => by
    obtain ⟨J, j1, j2, j3⟩ := least (P := fun j => ¬ cnd A b (p.2 - p.1) (p.2 + p.1) f j) N h
    exact ⟨J, by omega, j2, fun i hi => Classical.not_not.mp (j3 i hi)⟩
  have hb : 0 ≤ b := by omega
  by_cases hpq : p.1 < p.2
  · by_cases h : f.1 = 0
    · have hA0 : A = 0 := Classical.byContradiction fun z => hne ⟨h, by omega, hpq⟩
      refine go 0 (by omega) ?_
      unfold cnd
      rw [h, hA0]
      simp
    · exact go 1500 (by omega) (ends (by omega) (by omega) hA hAb (by omega) f1 f2)
  · have e : p.2 - p.1 = 0 := by omega
    refine go 1 (by omega) ?_
    unfold cnd
    rw [e]
    have : 0 ≤ f.1 * (b * (p.2 + p.1) ^ 1) := Int.mul_nonneg f0 (Int.mul_nonneg hb (by rw [Int.pow_one]; omega))
    simp only [Int.pow_one, Int.mul_zero, Int.zero_mul]
    rw [Int.pow_one] at this
    omega
theorem zip_fst : ∀ {c d : List Int}, c.length = d.length → (c.zip d).map (·.1) = c ∧ (c.zip d).map (·.2) = d
  | [], [], _ => by simp
  | x :: c, y :: d, h => by
    obtain ⟨h1, h2⟩ := zip_fst (c := c) (d := d) (by simpa using h)
    exact ⟨by rw [List.zip_cons_cons, List.map_cons, h1], by rw [List.zip_cons_cons, List.map_cons, h2]⟩
  | [], y :: d, h => by simp at h
  | x :: c, [], h => by simp at h
theorem mixU_zip (q p k l : Int) : ∀ (c d : List Int), mixU q p (c.map (k * ·)) (d.map (l * ·)) = (c.zip d).map (fun z => q * (k * z.1) + p * (l * z.2)) ∧ mixU q p (d.map (l * ·)) (c.map (k * ·)) = (c.zip d).map fun z => q * (l * z.2) + p * (k * z.1)
  | [], d => by simp [mixU]
  | x :: c, [] => by simp [mixU]
  | x :: c, y :: d => by
    obtain ⟨h1, h2⟩ := mixU_zip q p k l c d
    unfold mixU at *
    simp only [List.map_cons, List.zip_cons_cons]
    exact ⟨by rw [h1], by rw [h2]⟩
theorem mix_plain {m : Nat} {s q p : Int} {u v : List Int} (h : Tw m s u v) (hs : 0 < s) : plain (mixU q p ((plain u).map ((plain v).sum * ·)) ((plain v).map ((plain u).sum * ·))) = plain (mixU q p u v) := by
  obtain ⟨pu, g0⟩ := plain_sum_pos h.nu (by rw [h.su]; exact hs)
  obtain ⟨pv, h0⟩ := plain_sum_pos h.nv (by rw [h.sv]; exact hs)
  have eu := plain_mul h.nu
  have ev := plain_mul h.nv
  have su := sum_mul (gl 0 u) (plain u)
  have sv := sum_mul (gl 0 v) (plain v)
  rw [eu, h.su] at su
  rw [ev, h.sv] at sv
  have e1 : ((plain u).map ((plain v).sum * ·)).map (gl 0 u * gl 0 v * ·) = u.map (s * ·) := by
    conv => rhs; rw [← eu]
    rw [List.map_map, List.map_map]
    refine List.map_congr_left fun x _ => ?_
    show gl 0 u * gl 0 v * ((plain v).sum * x) = s * (gl 0 u * x)
    rw [sv]; grind
  have e2 : ((plain v).map ((plain u).sum * ·)).map (gl 0 u * gl 0 v * ·) = v.map (s * ·) := by
    conv => rhs; rw [← ev]
    rw [List.map_map, List.map_map]
    refine List.map_congr_left fun x _ => ?_
    show gl 0 u * gl 0 v * ((plain u).sum * x) = s * (gl 0 v * x)
    rw [su]; grind
  have e3 := mixU_scale q p (gl 0 u * gl 0 v) ((plain u).map ((plain v).sum * ·)) ((plain v).map ((plain u).sum * ·))
  rw [e1, e2, mixU_scale] at e3
  rw [← plain_scale (Int.mul_pos g0 h0), ← e3, plain_scale hs]
theorem mix_plain' {m : Nat} {s q p : Int} {u v : List Int} (h : Tw m s u v) (hs : 0 < s) : plain (mixU q p ((plain v).map ((plain u).sum * ·)) ((plain u).map ((plain v).sum * ·))) = plain (mixU q p v u) :=
  mix_plain (⟨h.lv, h.lu, h.nv, h.nu, h.sv, h.su⟩ : Tw m s v u) hs
theorem Tw.ct {m N : Nat} {s : Int} {u v : List Int} (h : Tw m s u v) (hs : 0 < s) (hN : s < 2 ^ N) : Ct m N (plain u) ∧ Ct m N (plain v) := by
  have a := plain_ct (xs := u) (B := N) (fun x hx => ⟨h.nu x hx, by have := le_sum h.nu x hx; rw [h.su] at this; omega⟩) (by rw [h.su]; exact hs)
  have b := plain_ct (xs := v) (B := N) (fun x hx => ⟨h.nv x hx, by have := le_sum h.nv x hx; rw [h.sv] at this; omega⟩) (by rw [h.sv]; exact hs)
  rw [h.lu] at a
  rw [h.lv] at b
  exact ⟨a, b⟩
theorem tw_start {c d : List Int} {m B : Nat} (hc : Ct m B c) (hd : Ct m B d) : Tw m (c.sum * d.sum) (c.map (d.sum * ·)) (d.map (c.sum * ·)) := by
  refine ⟨by simp [hc.len], by simp [hd.len], fun x hx => ?_, fun x hx => ?_, ?_, ?_⟩
  · obtain ⟨y, hy, rfl⟩ := List.mem_map.mp hx
    exact Int.mul_nonneg (Int.le_of_lt hd.pos) (hc.bd y hy).1
  · obtain ⟨y, hy, rfl⟩ := List.mem_map.mp hx
    exact Int.mul_nonneg (Int.le_of_lt hc.pos) (hd.bd y hy).1
  · rw [sum_mul, Int.mul_comm]
  · rw [sum_mul]
theorem dmax_start {c d : List Int} : dmax (c.map (d.sum * ·)) (d.map (c.sum * ·)) = apart c d := by
  unfold dmax apart
  rw [List.zip_map, List.map_map]
  congr 1
  refine List.map_congr_left fun z _ => ?_
  show absI (d.sum * z.1 - c.sum * z.2) = absI (z.1 * d.sum - z.2 * c.sum)
  rw [Int.mul_comm d.sum, Int.mul_comm c.sum]
theorem absI_neg (x : Int) : absI (-x) = absI x := by unfold absI; split <;> split <;> omega
theorem zip_swap' : ∀ c d : List Int, c.zip d = (d.zip c).map fun z => (z.2, z.1)
  | [], d => by simp
  | x :: c, [] => by simp
  | x :: c, y :: d => by rw [List.zip_cons_cons, List.zip_cons_cons, List.map_cons, zip_swap' c d]
theorem apart_comm (c d : List Int) : apart c d = apart d c := by
  unfold apart
  rw [zip_swap' c d, List.map_map]
  congr 1
  refine List.map_congr_left fun z _ => ?_
  show absI (z.2 * d.sum - z.1 * c.sum) = absI (z.1 * c.sum - z.2 * d.sum)
  rw [← absI_neg]
  congr 1
  omega
theorem cup_red {t b : Int} (h1 : 1 ≤ t) (h2 : t ≤ b) (h3 : b ≤ 100) : Cup (red t b) := by
  obtain ⟨f1, f2, f3, f4, f5⟩ := fr_red (a := t) (b := b) (by omega) h2 (by omega)
  obtain ⟨r1, r2, r3, r4⟩ := red_pos (a := t) (show 0 < b by omega)
  generalize red t b = R at *
  refine ⟨?_, f2, by omega, f5⟩
  rcases Int.lt_or_le 0 R.1 with z | z
  · exact z
  · exfalso
    have h5 : 0 < t * R.2 := Int.mul_pos (by omega) r1
    have h6 : R.1 * b ≤ 0 := Int.mul_nonpos_of_nonpos_of_nonneg z (by omega)
    omega
/-- a cup drawn with a bound (f__law_cup_p2) -/
theorem r__law_cup {n : Nat} {most : Int} (h1 : 1 ≤ most) (h100 : most ≤ 100) (hn : n ≤ 10 ^ 14) {cs : List Int} {p cur st ct : Int} (h : BB n cs p cur st ct) :
    ∃ d p' cur' st' ct', runF f__law_cup (.ptr 0 :: [.int most]) [CB cs p cur st ct] = .ok d [CB cs p' cur' st' ct'] ∧ BB (n + 3) cs p' cur' st' ct' ∧ noPtr 0 d = true ∧ ∃ q, d = dP q ∧ Cup q := by
  obtain ⟨v, p1, c1, s1, t1, e1, b1, v0, v1⟩ := drawS (r := []) (w := most) (by omega) (by omega) (by omega) h
  obtain ⟨u, p2, c2, s2, t2, e2, b2, u0, u1⟩ := drawS (r := []) (w := 1 + v) (by omega) (by omega) (by omega) b1
  obtain ⟨x, p3, c3, s3, t3, e3, b3, x0, x1⟩ := drawS (r := []) (w := 3) (by omega) (by omega) (by omega) b2
  obtain ⟨w, hw, hw2⟩ := ix3 [CB cs p3 c3 s3 t3] (1 + u) 1 (1 + v) x x0 x1
  have w1 : 1 ≤ w ∧ w ≤ 1 + v := by omega
  have e4 := simpleC (t := w) (b := 1 + v) (by omega) (big_log (n := 10) (by omega) (by omega) (by omega)) [CB cs p3 c3 s3 t3]
  refine ⟨dP (red w (1 + v)), p3, c3, s3, t3, ?_, b3, rfl, _, rfl, cup_red w1.1 w1.2 (by omega)⟩
  have nn := fun k => noPtrL_CB k cs p3 c3 s3 t3
  clear h b1 b2 b3
  simp only [ixD_new] at hw
  simp only [dP] at e4 ⊢
  unfold CB at *
  generalize dI cs = C at *
  unfold runF
  simp [f__law_cup, -callD, e1, e2, e3, hw, e4]
  try simpa using nn 1
/-- (f__law_cup_p2) -/
theorem cupJ {n j : Nat} {most : Int} {μ : Store} (h1 : 1 ≤ most) (h100 : most ≤ 100) (hn : n ≤ 10 ^ 14) (h : BJ n j μ) :
    ∃ q μ', callD (denF f__law_cup) [.ptr j, .int most] μ = .ok (dP q) μ' ∧ BJ (n + 3) j μ' ∧ μ'.length = μ.length ∧ Cup q := by
  obtain ⟨d, μ', h1, h2, h3, q, rfl, h4⟩ := callB (f := f__law_cup) (n' := n + 3) (xs := [.int most]) (P := fun d => ∃ q, d = dP q ∧ Cup q) rfl rfl rfl h fun cs p cur st ct hb => r__law_cup h1 h100 hn hb
  exact ⟨q, μ', h1, h2, h3, h4⟩
instance cndDec (A b S W : Int) (f : Int × Int) (j : Nat) : Decidable (cnd A b S W f j) := inferInstanceAs (Decidable (f.1 * (b * W ^ j) < A * S ^ j * f.2))
theorem frk {a b : Int} (h : 0 ≤ a ∧ a ≤ b ∧ 1 ≤ b ∧ b ≤ 1000000 ∧ Int.gcd a b = 1) : Fr (a, b) := h
theorem cupk {a b : Int} (h : 1 ≤ a ∧ a ≤ b ∧ b ≤ 100 ∧ Int.gcd a b = 1) : Cup (a, b) := h
/-- the law's question, told by the difference at the start -/
theorem ask_iff {f : Int × Int} {A t b W1 S1 : Int} (b0 : 0 < b) (w0 : 0 < W1) (e : t * W1 = S1 * A * b) : t * f.2 > f.1 * b ↔ f.1 * W1 < A * S1 * f.2 := by
  have e1 : t * f.2 * W1 = A * S1 * f.2 * b := by grind
  have e2 : f.1 * b * W1 = f.1 * W1 * b := by grind
  constructor
  · intro h
    have : f.1 * b * W1 < t * f.2 * W1 := Int.mul_lt_mul_of_pos_right h w0
    rw [e1, e2] at this
    exact Int.lt_of_mul_lt_mul_right this (Int.le_of_lt b0)
  · intro h
    have : f.1 * W1 * b < A * S1 * f.2 * b := Int.mul_lt_mul_of_pos_right h b0
    rw [← e1, ← e2] at this
    exact Int.lt_of_mul_lt_mul_right this (Int.le_of_lt w0)
/-! calls that raise, calls that look at cells within lists -/
theorem BJ.app {n j : Nat} {μ ν : Store} (h : BJ n j μ) : BJ n j (μ ++ ν) := by
  obtain ⟨cs, p, cur, st, ct, h1, h2⟩ := h
  refine ⟨cs, p, cur, st, ct, ?_, h2⟩
  rw [List.getElem?_append_left (List.getElem?_eq_some_iff.mp h1).1]
  exact h1
theorem callX {f : Fn} {ds es : List D} {c : Str} {μ : Store} (h : runF f es [] = .exc c []) (hf : frzL ds = es) (hn : noPtrL 0 es = true) (hl : ds.length = f.ps.length) : callD (denF f) ds μ = .exc c μ := by
  obtain ⟨p1, p2, p3⟩ := plain_args es hn
  unfold callD
  rw [hf, p1, if_pos ⟨hl, p3, by simp⟩]
  simp only [p2, getCs, denF_run, h]
  rw [if_pos ⟨rfl, rfl⟩]
  rfl
theorem viewD_plain {μ : Store} {d : D} (n : Nat) (h : noPtr 0 d = true) : viewD n μ d = some d := by
  cases n <;> simp [viewD, h]
theorem viewL_plain {μ : Store} (n : Nat) : ∀ {xs : List D}, noPtrL 0 xs = true → mapO (viewD n μ) xs = some xs
  | [], _ => rfl
  | x :: xs, h => by
    have h : (noPtr 0 x && noPtrL 0 xs) = true := h
    rw [Bool.and_eq_true] at h
    simp only [mapO, viewD_plain n h.1, viewL_plain n h.2]
theorem viewD_cell {μ : Store} {k n : Nat} {xs : List D} (h : μ[k]? = some (.lst xs)) (hn : noPtrL 0 xs = true) : viewD (n + 1) μ (.ptr k) = some (.lst xs) := by
  rw [viewD, if_neg (by simp)]
  simp only [h, viewL_plain n hn]
  rfl
theorem viewD_lst {μ : Store} {n : Nat} {xs ys : List D} (hn : noPtrL 0 xs = false) (h : mapO (viewD n μ) xs = some ys) : viewD (n + 1) μ (.lst xs) = some (.lst ys) := by
  rw [viewD, if_neg (by simp [hn])]
  simp only [h]
  rfl
theorem viewD_tup {μ : Store} {n : Nat} {xs ys : List D} (hn : noPtrL 0 xs = false) (h : mapO (viewD n μ) xs = some ys) : viewD (n + 1) μ (.tup xs) = some (.tup ys) := by
  rw [viewD, if_neg (by simp [hn])]
  simp only [h]
  rfl
theorem callV_of {f : Fn} {args ds : List D} {d : D} {μ : Store} (ha : (frzL args).all okA = false) (hl : args.length = f.ps.length) (hv : mapO (viewD 4 μ) (frzL args) = some ds) (hr : runF f ds [] = .ok d []) (hs : isSc d = true) : callD (denF f) args μ = .ok d μ := by
  unfold callD
  rw [if_neg (by rw [ha]; simp)]
  unfold callV
  rw [if_pos hl, hv]
  simp only [denF_run, hr, hs, if_true]
theorem alikeV {d e x : D} {μ : Store} (hx : Lk 6 x) (ha : (okA (frz d) && okA (frz e)) = false) (hd : viewD 4 μ (frz d) = some x) (he : viewD 4 μ (frz e) = some x) : callD (denF f__law_alike) [d, e] μ = .ok (.bl true) μ := by
  refine callV_of (ds := [x, x]) (by simpa [frzL] using ha) rfl ?_ (r__law_alike hx) rfl
  simp only [frzL, mapO, hd, he]
theorem Lk_dI (n : Nat) {xs : List Int} (h : xs.length ≤ 1000) : Lk (n + 1) (.lst (dI xs)) := .lst (by simpa [dI] using h) fun x hx => by
  obtain ⟨i, _, rfl⟩ := List.mem_map.mp hx
  exact .int n i
theorem Lk_dN (n : Nat) {xs : List Nat} (h : xs.length ≤ 1000) : Lk (n + 1) (.lst (dN xs)) := .lst (by simpa [dN] using h) fun x hx => by
  obtain ⟨i, _, rfl⟩ := List.mem_map.mp hx
  exact .int n _
theorem Lk_dP (n : Nat) (p : Int × Int) : Lk (n + 1) (dP p) := .tup (by simp) fun x hx => by
  simp only [List.mem_cons, List.not_mem_nil, or_false] at hx
  rcases hx with rfl | rfl <;> exact .int n _
theorem Lk_two {n : Nat} {x y : D} (hx : Lk n x) (hy : Lk n y) : Lk (n + 1) (.lst [x, y]) := .lst (by simp) fun z hz => by
  simp only [List.mem_cons, List.not_mem_nil, or_false] at hz
  rcases hz with rfl | rfl
  · exact hx
  · exact hy
/-! lists of lists of numbers -/
theorem Pl_LL (cs : List (List Int)) : Pl 2 (.lst (cs.map dL)) (pL cs) := .lst (by simp) (map_items (R := fun d p => Pl 1 d p) dL (fun c => PyData.list (c.map .int)) cs fun c _ => Pl_ints (fun x => x) c)
theorem eqv_LL (a b : List Int) : PyData.eqv (.list (a.map fun x => PyData.int x)) (.list (b.map fun x => .int x)) = decide (a = b) := by
  simp only [PyData.eqv]
  rw [eqvAll_ints]
theorem in_LL (μ : Store) (a : List Int) (cs : List (List Int)) : inD μ (.lst (dI a)) (.lst (cs.map dL)) = some (decide (a ∈ cs)) := by
  have p1 := Pl_ints (fun x : Int => x) a
  have p2 := Pl_LL cs
  have e0 : toP μ 40 (.lst (dI a)) = toP μ 40 (.lst (a.map fun x : Int => .int x)) := rfl
  unfold inD
  simp only
  rw [e0, (p1.ok (μ := μ) 40 (by omega)).1, (p2.ok (μ := μ) 40 (by omega)).1]
  unfold pL at *
  simp only
  rw [p1.shaped (by omega), p2.shaped (by omega)]
  simp only [Bool.and_self, if_true]
  congr 1
  rw [List.any_map]
  apply Bool.eq_iff_iff.mpr
  rw [List.any_eq_true, decide_eq_true_iff]
  constructor
  · rintro ⟨x, hx, h2⟩
    simp only [Function.comp_apply, eqv_LL, decide_eq_true_iff] at h2
    rw [← h2]; exact hx
  · intro hx
    exact ⟨a, hx, by simp [eqv_LL]⟩
theorem in_LLn (μ : Store) (a : List Int) (cs : List (List Int)) : inD μ (.lst (dI a)) (.new (cs.map dL)) = some (decide (a ∈ cs)) := in_LL μ a cs
/-- the content of a pot behind a cup to and fro with another one -/
def pb (p : Int × Int) (c d : List Int) : List Int := plain (mixU p.2 p.1 (c.map (d.sum * ·)) (d.map (c.sum * ·)))
theorem pb_plain {m : Nat} {s : Int} {u v : List Int} (p : Int × Int) (h : Tw m s u v) (hs : 0 < s) : pb p (plain u) (plain v) = plain (mixU p.2 p.1 u v) := mix_plain h hs
theorem Tw.swap {m : Nat} {s : Int} {u v : List Int} (h : Tw m s u v) : Tw m s v u := ⟨h.lv, h.lu, h.nv, h.nu, h.sv, h.su⟩
theorem sh_mixU {m : Nat} {s : Int} {u v : List Int} {p : Int × Int} (h : Tw m s u v) (hs : 0 < s) (hp : Cup p) {i : Nat} (hi : i < m) :
    sh (mixU p.2 p.1 u v) i = (((p.2 : Int) : Rat) * sh u i + ((p.1 : Int) : Rat) * sh v i) / (((p.2 + p.1 : Int)) : Rat) := by
  obtain ⟨k1, k2, k3, _⟩ := hp
  have l1 : u.length = v.length := by rw [h.lu, h.lv]
  unfold sh
  rw [mixU_at l1 i (by rw [h.lu]; exact hi), mixU_sum _ _ _ _ l1, h.su, h.sv]
  generalize u[i]?.getD 0 = x
  generalize v[i]?.getD 0 = y
  have e : p.2 * s + p.1 * s = (p.2 + p.1) * s := by grind
  rw [e]
  have hs' : ((s : Int) : Rat) ≠ 0 := by exact_mod_cast (show s ≠ 0 by omega)
  have hw' : ((p.2 + p.1 : Int) : Rat) ≠ 0 := by exact_mod_cast (show p.2 + p.1 ≠ 0 by omega)
  rw [Rat.intCast_mul, Rat.intCast_add, Rat.intCast_mul, Rat.intCast_mul]
  generalize ((p.2 + p.1 : Int) : Rat) = W at *
  grind
section
variable {c d : List Int} {m B : Nat} {p : Int × Int}
theorem pb_tw (hc : Ct m B c) (hd : Ct m B d) (hp : Cup p) : Tw m ((p.2 + p.1) * (c.sum * d.sum)) (mixU p.2 p.1 (c.map (d.sum * ·)) (d.map (c.sum * ·))) (mixU p.2 p.1 (d.map (c.sum * ·)) (c.map (d.sum * ·))) := by
  obtain ⟨k1, k2, k3, _⟩ := hp
  exact (tw_start hc hd).step (by omega) (by omega)
theorem pb_ct (hc : Ct m B c) (hd : Ct m B d) (m8 : m ≤ 8) (hp : Cup p) : Ct m (2 * B + 16) (pb p c d) := by
  have h0 := Int.mul_pos hc.pos hd.pos
  have t := pb_tw hc hd hp
  obtain ⟨k1, k2, k3, _⟩ := hp
  have w := Int.mul_pos (show 0 < p.2 + p.1 by omega) h0
  have nc := hc.nn' m8
  have nd := hd.nn' m8
  have l := mul_lt'' (show (p.2 + p.1).natAbs < 2 ^ 8 by omega) (mul_lt'' nc.sA nd.sA)
  have l2 : (p.2 + p.1) * (c.sum * d.sum) < 2 ^ (2 * B + 16) := by
    have h3 : (((p.2 + p.1) * (c.sum * d.sum)).natAbs : Int) < ((2 ^ (8 + (B + 4 + (B + 4))) : Nat) : Int) := by exact_mod_cast l
    rw [Int.natAbs_of_nonneg (Int.le_of_lt w), show 8 + (B + 4 + (B + 4)) = 2 * B + 16 by omega] at h3
    simpa using h3
  exact (t.ct w l2).1
theorem sh_pb (hc : Ct m B c) (hd : Ct m B d) (hp : Cup p) {i : Nat} (hi : i < m) :
    sh (pb p c d) i = (((p.2 : Int) : Rat) * sh c i + ((p.1 : Int) : Rat) * sh d i) / (((p.2 + p.1 : Int)) : Rat) := by
  have h0 := Int.mul_pos hc.pos hd.pos
  have t := pb_tw hc hd hp
  have w := Int.mul_pos (show 0 < p.2 + p.1 by have := hp; unfold Cup at this; omega) h0
  unfold pb
  rw [sh_plain t.nu (by rw [t.su]; exact w), sh_mixU (tw_start hc hd) h0 hp hi, sh_scale hd.pos _ hc.pos, sh_scale hc.pos _ hd.pos]
end
/-! families of rows with one sum -/
structure Fam (m : Nat) (s : Int) (us : List (List Int)) : Prop where
  len : ∀ u ∈ us, u.length = m
  nn : ∀ u ∈ us, ∀ x ∈ u, 0 ≤ x
  su : ∀ u ∈ us, u.sum = s
theorem Fam.tw {m : Nat} {s : Int} {us : List (List Int)} (h : Fam m s us) {u v : List Int} (hu : u ∈ us) (hv : v ∈ us) : Tw m s u v := ⟨h.len u hu, h.len v hv, h.nn u hu, h.nn v hv, h.su u hu, h.su v hv⟩
abbrev Deed := Nat × Nat × (Int × Int)
def atL (X : List (List Int)) (i : Nat) : List Int := X[i]?.getD []
theorem atL_mem {X : List (List Int)} {i : Nat} (h : i < X.length) : atL X i ∈ X := by
  unfold atL
  rw [List.getElem?_eq_getElem h]
  exact List.getElem_mem h
def stepX (X : List (List Int)) (a : Deed) : List (List Int) := (X.set a.1 (pb a.2.2 (atL X a.1) (atL X a.2.1))).set a.2.1 (pb a.2.2 (atL X a.2.1) (atL X a.1))
def rowX (X : List (List Int)) (acts : List Deed) : List (List Int) := acts.foldl stepX X
def stepU (us : List (List Int)) (a : Deed) : List (List Int) := ((us.map fun u => u.map ((a.2.2.2 + a.2.2.1) * ·)).set a.1 (mixU a.2.2.2 a.2.2.1 (atL us a.1) (atL us a.2.1))).set a.2.1 (mixU a.2.2.2 a.2.2.1 (atL us a.2.1) (atL us a.1))
def Ok (n : Nat) (a : Deed) : Prop := a.1 < n ∧ a.2.1 < n ∧ a.1 ≠ a.2.1 ∧ Cup a.2.2
theorem Fam.step {m : Nat} {s : Int} {us : List (List Int)} (h : Fam m s us) {a : Deed} (ha : Ok us.length a) : Fam m ((a.2.2.2 + a.2.2.1) * s) (stepU us a) := by
  obtain ⟨h1, h2, h3, k1, k2, k3, k4⟩ := ha
  have t := (h.tw (atL_mem h1) (atL_mem h2)).step (q := a.2.2.2) (p := a.2.2.1) (by omega) (by omega)
  have key : ∀ u ∈ stepU us a, u.length = m ∧ (∀ x ∈ u, 0 ≤ x) ∧ u.sum = (a.2.2.2 + a.2.2.1) * s := fun u hu => by
    rcases List.mem_or_eq_of_mem_set hu with hu | rfl
    · rcases List.mem_or_eq_of_mem_set hu with hu | rfl
      · obtain ⟨v, hv, rfl⟩ := List.mem_map.mp hu
        refine ⟨by simp [h.len v hv], fun x hx => ?_, by rw [sum_mul, h.su v hv]⟩
        obtain ⟨y, hy, rfl⟩ := List.mem_map.mp hx
        exact Int.mul_nonneg (by omega) (h.nn v hv y hy)
      · exact ⟨t.lu, t.nu, t.su⟩
    · exact ⟨t.lv, t.nv, t.sv⟩
  exact ⟨fun u hu => (key u hu).1, fun u hu => (key u hu).2.1, fun u hu => (key u hu).2.2⟩
theorem atL_map {us : List (List Int)} {i : Nat} (h : i < us.length) : atL (us.map plain) i = plain (atL us i) := by
  unfold atL
  rw [List.getElem?_map, List.getElem?_eq_getElem h]
  rfl
theorem step_plain {m : Nat} {s : Int} {us : List (List Int)} (h : Fam m s us) (hs : 0 < s) {a : Deed} (ha : Ok us.length a) : stepX (us.map plain) a = (stepU us a).map plain := by
  obtain ⟨h1, h2, h3, hp⟩ := ha
  have t := h.tw (atL_mem h1) (atL_mem h2)
  unfold stepX stepU
  rw [atL_map h1, atL_map h2, pb_plain _ t hs, pb_plain _ t.swap hs, List.map_set, List.map_set, List.map_map]
  congr 2
  refine List.map_congr_left fun u _ => ?_
  obtain ⟨k1, k2, k3, _⟩ := hp
  exact (plain_scale (show 0 < a.2.2.2 + a.2.2.1 by omega) u).symm
/-- pots whose bottoms share a bound -/
def Pots (m n N : Nat) (X : List (List Int)) : Prop := X.length = n ∧ ∃ us s, Fam m s us ∧ 0 < s ∧ s.natAbs < 2 ^ N ∧ X = us.map plain
theorem Pots.ct {m n N : Nat} {X : List (List Int)} (h : Pots m n N X) : ∀ c ∈ X, Ct m N c := fun c hc => by
  obtain ⟨_, us, s, hf, hs, hN, rfl⟩ := h
  obtain ⟨u, hu, rfl⟩ := List.mem_map.mp hc
  have l : s < 2 ^ N := by
    have h3 : (s.natAbs : Int) < ((2 ^ N : Nat) : Int) := by exact_mod_cast hN
    rw [Int.natAbs_of_nonneg (Int.le_of_lt hs)] at h3
    simpa using h3
  exact ((hf.tw hu hu).ct hs l).1
theorem Pots.step {m n N : Nat} {X : List (List Int)} (h : Pots m n N X) {a : Deed} (ha : Ok n a) : Pots m n (8 + N) (stepX X a) := by
  obtain ⟨hl, us, s, hf, hs, hN, rfl⟩ := h
  have hn : us.length = n := by simpa using hl
  have k := ha.2.2.2
  unfold Cup at k
  rw [← hn] at ha
  refine ⟨by simp [stepX, hn], stepU us a, (a.2.2.2 + a.2.2.1) * s, hf.step ha, Int.mul_pos (by omega) hs, mul_lt'' (by omega) hN, step_plain hf hs ha⟩
theorem Pots.mono {m n N N' : Nat} {X : List (List Int)} (h : Pots m n N X) (hN : N ≤ N') : Pots m n N' X := by
  obtain ⟨hl, us, s, hf, hs, h2, e⟩ := h
  exact ⟨hl, us, s, hf, hs, Nat.lt_of_lt_of_le h2 (Nat.pow_le_pow_right (by omega) hN), e⟩
theorem Pots.row {m n : Nat} : ∀ {acts : List Deed} {N : Nat} {X : List (List Int)}, Pots m n N X → (∀ a ∈ acts, Ok n a) → Pots m n (8 * acts.length + N) (rowX X acts)
  | [], N, X, h, _ => by simpa [rowX] using h
  | a :: acts, N, X, h, ha => by
    have := Pots.row (acts := acts) (h.step (ha a List.mem_cons_self)) fun b hb => ha b (List.mem_cons_of_mem _ hb)
    exact this.mono (by simp only [List.length_cons]; omega)
def prodS : List (List Int) → Int
  | [] => 1
  | c :: cs => c.sum * prodS cs
theorem prodS_dvd : ∀ {X : List (List Int)} {c : List Int}, c ∈ X → c.sum ∣ prodS X
  | d :: X, c, h => by
    rcases List.mem_cons.mp h with rfl | h
    · exact Int.dvd_mul_right _ _
    · exact Int.dvd_trans (prodS_dvd h) (Int.dvd_mul_left _ _)
theorem prodS_pos {m B : Nat} : ∀ {X : List (List Int)}, (∀ c ∈ X, Ct m B c) → 0 < prodS X
  | [], _ => by decide
  | c :: X, h => Int.mul_pos (h c List.mem_cons_self).pos (prodS_pos fun d hd => h d (List.mem_cons_of_mem _ hd))
theorem prodS_lt {m B : Nat} (m8 : m ≤ 8) : ∀ {X : List (List Int)}, (∀ c ∈ X, Ct m B c) → (prodS X).natAbs < 2 ^ ((B + 4) * X.length + 1)
  | [], _ => by simp [prodS]
  | c :: X, h => by
    have := mul_lt'' ((h c List.mem_cons_self).nn' m8).sA (prodS_lt m8 (X := X) fun d hd => h d (List.mem_cons_of_mem _ hd))
    rw [List.length_cons, show (B + 4) * (X.length + 1) + 1 = B + 4 + ((B + 4) * X.length + 1) by rw [Nat.mul_add, Nat.mul_one]; omega]
    exact this
theorem Pots.start {m n B : Nat} {X : List (List Int)} (hl : X.length = n) (m8 : m ≤ 8) (h : ∀ c ∈ X, Ct m B c) : Pots m n ((B + 4) * n + 1) X := by
  have key : ∀ c ∈ X, 0 < prodS X / c.sum ∧ prodS X / c.sum * c.sum = prodS X := fun c hc => by
    have e := Int.ediv_mul_cancel (prodS_dvd hc)
    have p := prodS_pos h
    have q := (h c hc).pos
    refine ⟨?_, e⟩
    rcases Int.lt_or_le 0 (prodS X / c.sum) with z | z
    · exact z
    · have := Int.mul_nonpos_of_nonpos_of_nonneg z (Int.le_of_lt q)
      omega
  refine ⟨hl, X.map fun c => c.map (prodS X / c.sum * ·), prodS X, ⟨?_, ?_, ?_⟩, prodS_pos h, by rw [← hl]; exact prodS_lt m8 h, ?_⟩
  · intro u hu
    obtain ⟨c, hc, rfl⟩ := List.mem_map.mp hu
    simp [(h c hc).len]
  · intro u hu x hx
    obtain ⟨c, hc, rfl⟩ := List.mem_map.mp hu
    obtain ⟨y, hy, rfl⟩ := List.mem_map.mp hx
    exact Int.mul_nonneg (Int.le_of_lt (key c hc).1) ((h c hc).bd y hy).1
  · intro u hu
    obtain ⟨c, hc, rfl⟩ := List.mem_map.mp hu
    rw [sum_mul, (key c hc).2]
  · rw [List.map_map]
    refine ((List.map_congr_left fun c hc => ?_).trans (List.map_id _)).symm
    exact plain_times (h c hc) (key c hc).1
/-! what all hold -/
def allSh (i : Nat) (X : List (List Int)) : Rat := (X.map fun c => sh c i).sum
theorem sumF_set (f : List Int → Rat) (a : List Int) : ∀ (X : List (List Int)) (i : Nat), i < X.length → ((X.set i a).map f).sum = (X.map f).sum - f (atL X i) + f a
  | [], i, h => by simp at h
  | x :: X, 0, _ => by
    show f a + (X.map f).sum = f x + (X.map f).sum - f x + f a
    grind
  | x :: X, i + 1, h => by
    have := sumF_set f a X i (by simpa using h)
    show f x + ((X.set i a).map f).sum = f x + (X.map f).sum - f (atL X i) + f a
    rw [this]
    grind
theorem atL_set_ne {X : List (List Int)} {i j : Nat} {a : List Int} (h : i ≠ j) : atL (X.set i a) j = atL X j := by
  unfold atL
  rw [List.getElem?_set_ne h]
theorem all_step {m B n : Nat} {X : List (List Int)} {i : Nat} {a : Deed} (hl : X.length = n) (h : ∀ c ∈ X, Ct m B c) (ha : Ok n a) (hi : i < m) : allSh i (stepX X a) = allSh i X := by
  obtain ⟨h1, h2, h3, hp⟩ := ha
  have c1 := h _ (atL_mem (X := X) (i := a.1) (by omega))
  have c2 := h _ (atL_mem (X := X) (i := a.2.1) (by omega))
  have s1 := sh_pb c1 c2 hp hi
  have s2 := sh_pb c2 c1 hp hi
  unfold allSh stepX
  rw [sumF_set _ _ _ _ (by simp; omega), sumF_set _ _ _ _ (by omega), atL_set_ne h3, s1, s2]
  have k := hp
  unfold Cup at k
  have hw' : ((a.2.2.2 + a.2.2.1 : Int) : Rat) ≠ 0 := by exact_mod_cast (show a.2.2.2 + a.2.2.1 ≠ 0 by omega)
  rw [Rat.intCast_add] at *
  grind
theorem all_row {m n : Nat} {i : Nat} (hi : i < m) : ∀ {acts : List Deed} {N : Nat} {X : List (List Int)}, Pots m n N X → (∀ a ∈ acts, Ok n a) → allSh i (rowX X acts) = allSh i X
  | [], N, X, h, _ => rfl
  | a :: acts, N, X, h, ha => by
    have := all_row hi (acts := acts) (h.step (ha a List.mem_cons_self)) fun b hb => ha b (List.mem_cons_of_mem _ hb)
    exact this.trans (all_step h.1 h.ct (ha a List.mem_cons_self) hi)
section
variable {c d : List Int} {m B : Nat} {p : Int × Int}
theorem mix_lists (q p : Int) (c d : List Int) : mixU q p (c.map (d.sum * ·)) (d.map (c.sum * ·)) = (c.zip d).map fun z => q * z.1 * d.sum + p * z.2 * c.sum := by
  rw [(mixU_zip q p d.sum c.sum c d).1]
  refine List.map_congr_left fun z _ => ?_
  grind
theorem r_pot_behind (hc : Ct m B c) (hd : Ct m B d) (m8 : m ≤ 8) (hB : B ≤ 3000) (hp : Cup p) : runF f_pot_behind [.lst (dI c), .lst (dI d), dP p] [] = .ok (.new (dI (pb p c d))) [] := by
  have nc := hc.nn' m8
  have nd := hd.nn' m8
  have sc := nc.sA
  have sd := nd.sA
  obtain ⟨k1, k2, k3, _⟩ := id hp
  have t := pb_tw hc hd hp
  have h0 := Int.mul_pos hc.pos hd.pos
  have w := Int.mul_pos (show 0 < p.2 + p.1 by omega) h0
  have l := mul_lt'' (show (p.2 + p.1).natAbs < 2 ^ 8 by omega) (mul_lt'' sc sd)
  have hcomp : (ev f_pot_behind_c0).e [some (.lst (dI c)), some (.lst (dI d)), some (dP p), some (.int p.1), some (.int p.2), some (.int c.sum), some (.int d.sum), none, none] [] = .ok (.new (dI (mixU p.2 p.1 (c.map (d.sum * ·)) (d.map (c.sum * ·))))) [] := by
    have := lcS_map (tg := .tp [7, 8]) (tst := evTs .nil) (elt := (ev (.bin .add (.bin .mul (.bin .mul (.v 4) (.v 7)) (.v 6)) (.bin .mul (.bin .mul (.v 3) (.v 8)) (.v 5)))).e) (ρ := [some (.lst (dI c)), some (.lst (dI d)), some (dP p), some (.int p.1), some (.int p.2), some (.int c.sum), some (.int d.sum), none, none]) (μ := []) (fun z : Int × Int => .tup [.int z.1, .int z.2]) (fun z => [some (.lst (dI c)), some (.lst (dI d)), some (dP p), some (.int p.1), some (.int p.2), some (.int c.sum), some (.int d.sum), some (.int z.1), some (.int z.2)]) (fun z => .int (p.2 * z.1 * d.sum + p.1 * z.2 * c.sum)) (c.zip d) [] (fun z hz => by
      have hz2 := List.of_mem_zip (show (z.1, z.2) ∈ _ from hz)
      have t1 := mul_lt'' (show p.2.natAbs < 2 ^ 7 by omega) (nc.eA hz2.1)
      have t2 := mul_lt'' (show p.1.natAbs < 2 ^ 7 by omega) (nd.eA hz2.2)
      have m1 : mulOk p.2 z.1 = true := mulOk_of 7 _ (by omega) (nc.eA hz2.1) (by omega)
      have m2 : mulOk p.1 z.2 = true := mulOk_of 7 _ (by omega) (nd.eA hz2.2) (by omega)
      have m3 : mulOk (p.2 * z.1) d.sum = true := mulOk_of _ _ t1 sd (by omega)
      have m4 : mulOk (p.1 * z.2) c.sum = true := mulOk_of _ _ t2 sc (by omega)
      simp [m1, m2, m3, m4]) (by have := hc.len; simp; omega)
    refine lc_of (ds := (c.zip d).map fun z => .tup [.int z.1, .int z.2]) (lv := []) (μ1 := []) (by simp [zip_ints]) ?_
    refine Eq.trans this ?_
    rw [mix_lists]
    simp [dI, Function.comp_def]
  have hbd : Bd (8 + (B + 4 + (B + 4))) (mixU p.2 p.1 (c.map (d.sum * ·)) (d.map (c.sum * ·))) := fun x hx => by
    have h2 := le_sum t.nu x hx
    have h3 : (((p.2 + p.1) * (c.sum * d.sum)).natAbs : Int) < ((2 ^ (8 + (B + 4 + (B + 4))) : Nat) : Int) := by exact_mod_cast l
    rw [Int.natAbs_of_nonneg (Int.le_of_lt w)] at h3
    rw [t.su] at h2
    refine ⟨t.nu x hx, Int.lt_of_le_of_lt h2 ?_⟩
    simpa using h3
  have hw : ∀ μ, callD (denF f_without_divisor) [.new (dI (mixU p.2 p.1 (c.map (d.sum * ·)) (d.map (c.sum * ·))))] μ = .ok (.new (dI (pb p c d))) μ := fun μ =>
    call0 (es := [.lst (dI (mixU p.2 p.1 (c.map (d.sum * ·)) (d.map (c.sum * ·))))]) (r_without_divisor (by omega) hbd (by rw [t.su]; exact w) (by rw [t.lu]; omega)) (by simp [frzL]) (by simp) rfl (by simp)
  have s1 := intsOf_dI c
  have s2 := intsOf_dI d
  have nn := fun k => noPtrL_dI k (pb p c d)
  clear hbd t w h0 l
  generalize pb p c d = R at *
  generalize mixU p.2 p.1 (c.map (d.sum * ·)) (d.map (c.sum * ·)) = Q at *
  generalize dI R = R' at *
  generalize dI Q = Q' at *
  generalize dI c = C at *
  generalize dI d = D at *
  simp only [dP] at *
  unfold runF
  simp [f_pot_behind, -callD, bindT, bindAll, s1, s2, hcomp, hw, nn]
theorem pbC (hc : Ct m B c) (hd : Ct m B d) (m8 : m ≤ 8) (hB : B ≤ 3000) (hp : Cup p) (μ : Store) : callD (denF f_pot_behind) [.lst (dI c), .lst (dI d), dP p] μ = .ok (.new (dI (pb p c d))) μ :=
  call0 (r_pot_behind hc hd m8 hB hp) (by simp [frzL, frz]) (by simp [noPtrL, noPtr]) rfl (by simp)
theorem r_to_and_fro (hc : Ct m B c) (hd : Ct m B d) (m1 : 1 ≤ m) (m8 : m ≤ 8) (hB : B ≤ 3000) (hp : Cup p) : runF f_to_and_fro [.lst (dI c), .lst (dI d), dP p] [] = .ok (.tup [.new (dI (pb p c d)), .new (dI (pb p d c))]) [] := by
  have e1 : ∀ μ, callD (denF f_need_two_pots) [.lst (dI c), .lst (dI d)] μ = .ok .non μ := fun μ => call0 (r_need_two_pots hc hd m1 m8 (by omega)) (by simp [frzL]) (by simp) rfl rfl
  have e2 : ∀ μ, callD (denF f_need_cup) [dP p] μ = .ok .non μ := fun μ => call0 (r_need_cup hp) (by simp) (by simp) rfl rfl
  have e3 := fun μ => pbC hc hd m8 hB hp μ
  have e4 := fun μ => pbC hd hc m8 hB hp μ
  have n1 := fun k => noPtrL_dI k (pb p c d)
  have n2 := fun k => noPtrL_dI k (pb p d c)
  generalize pb p c d = R1 at *
  generalize pb p d c = R2 at *
  generalize dI R1 = R1' at *
  generalize dI R2 = R2' at *
  generalize dI c = C at *
  generalize dI d = D at *
  simp only [dP] at *
  unfold runF
  simp [f_to_and_fro, -callD, e1, e2, e3, e4, n1, n2]
theorem froC {e1 e2 : D} (h1 : frz e1 = .lst (dI c)) (h2 : frz e2 = .lst (dI d)) (hc : Ct m B c) (hd : Ct m B d) (m1 : 1 ≤ m) (m8 : m ≤ 8) (hB : B ≤ 3000) (hp : Cup p) (μ : Store) : callD (denF f_to_and_fro) [e1, e2, dP p] μ = .ok (.tup [.new (dI (pb p c d)), .new (dI (pb p d c))]) μ :=
  call0 (es := [.lst (dI c), .lst (dI d), dP p]) (r_to_and_fro hc hd m1 m8 hB hp) (by simp [frzL, frz, h1, h2]) (by simp [noPtrL, noPtr]) rfl (by simp [noPtrL, noPtr])
theorem r_carried (hp : Cup p) : runF f_carried [dP p] [] = .ok (dP (p.1, p.1 + p.2)) [] := by
  have e2 : ∀ μ, callD (denF f_need_cup) [dP p] μ = .ok .non μ := fun μ => call0 (r_need_cup hp) (by simp) (by simp) rfl rfl
  obtain ⟨k1, k2, k3, k4⟩ := id hp
  have e3 : ∀ μ, callD (denF f_simplest) [.int p.1, .int (p.1 + p.2)] μ = .ok (dP (red p.1 (p.1 + p.2))) μ := fun μ => call0 (r_simplest (s := p.1) (w := p.1 + p.2) (by omega) (big_log (n := 10) (by omega) (by omega) (by omega))) rfl rfl rfl rfl
  have e4 : red p.1 (p.1 + p.2) = (p.1, p.1 + p.2) := by
    have : Int.gcd p.1 (p.1 + p.2) = 1 := by rw [Int.gcd_self_add_right]; exact k4
    unfold red
    rw [this]
    simp
  rw [e4] at e3
  simp only [dP] at *
  unfold runF
  simp [f_carried, -callD, e2, e3]
end
/-! rows of deeds -/
def dD (a : Deed) : D := .tup [.int (a.1 : Int), .int (a.2.1 : Int), dP a.2.2]
theorem frz_dD (a : Deed) : frz (dD a) = dD a := rfl
theorem frzL_dD : ∀ acts : List Deed, frzL (acts.map dD) = acts.map dD
  | [] => rfl
  | a :: acts => by rw [List.map_cons, frzL, frz_dD, frzL_dD acts]
theorem noPtrL_dD (k : Nat) : ∀ acts : List Deed, noPtrL k (acts.map dD) = true
  | [] => rfl
  | a :: acts => by rw [List.map_cons, noPtrL, noPtrL_dD k acts]; rfl
theorem frzL_dL' : ∀ X : List (List Int), frzL (X.map dL) = X.map dL
  | [] => rfl
  | x :: X => by rw [List.map_cons, frzL, frzL_dL' X]; simp [dL]
theorem noPtrL_dL' (k : Nat) : ∀ X : List (List Int), noPtrL k (X.map dL) = true
  | [] => rfl
  | x :: X => by rw [List.map_cons, noPtrL, noPtrL_dL' k X]; simp [dL]
theorem atI_dL {X : List (List Int)} {i : Nat} (h : i < X.length) : L2.atI (X.map dL) (i : Int) = some (.lst (dI (atL X i))) := by
  rw [atI_nat _ _ (by simpa using h), List.getElem?_map, List.getElem?_eq_getElem h]
  unfold atL
  rw [List.getElem?_eq_getElem h]
  rfl
theorem r_is_deed {a : Deed} {n : Nat} (h : Ok n a) (n8 : n ≤ 8) : runF f_is_deed [dD a, .int (n : Int)] [] = .ok (.bl true) [] := by
  obtain ⟨h1, h2, h3, hp⟩ := h
  have e1 : ∀ i : Int, ∀ μ, callD (denF f_is_integer) [.int i] μ = .ok (.bl true) μ := fun i μ => call0 (r_is_integer i) rfl rfl rfl rfl
  obtain ⟨k1, k2, k3, k5⟩ := id hp
  have hl : a.2.2.2.natAbs.log2 < 9000 := log_of' (n := 20) (by omega) (by omega)
  have c := c_is_cup a.2.2
  have e2 : runF f_is_cup [dP a.2.2] [] = .ok (.bl true) [] := by
    simp only [dP] at c ⊢
    unfold runF
    simp [f_is_cup, c, boolsOf, k1, k2, k3, r_common_divisor, hl, k5]
  have e3 : ∀ μ, callD (denF f_is_cup) [dP a.2.2] μ = .ok (.bl true) μ := fun μ => call0 e2 (by simp) (by simp) rfl rfl
  have h1' : (a.1 : Int) < (n : Int) := by omega
  have h2' : (a.2.1 : Int) < (n : Int) := by omega
  have h3' : ¬ (a.1 : Int) = (a.2.1 : Int) := by omega
  have z1 : (0 : Int) ≤ (a.1 : Int) := by omega
  have z2 : (0 : Int) ≤ (a.2.1 : Int) := by omega
  unfold dD
  generalize dP a.2.2 = P at *
  unfold runF
  simp [f_is_deed, -callD, e1, e3, h1', h2', h3', z1, z2]
section
variable {m n B : Nat} {X : List (List Int)} {acts : List Deed}
theorem r_need_pots (hX : Pots m n B X) (m1 : 1 ≤ m) (m8 : m ≤ 8) (n2 : 2 ≤ n) (n8 : n ≤ 8) (hB : B ≤ 7000) : runF f_need_pots [.lst (X.map dL)] [] = .ok .non [] := by
  have ct := hX.ct
  have hl := hX.1
  have c0 : (ev f_need_pots_c0).e [some (.lst (X.map dL)), none] [] = .ok (.new (X.map fun _ => .bl true)) [] := by
    have := lcS_map (tg := .nm 1) (tst := evTs .nil) (elt := (ev (.call "is_content" (denF f_is_content) (.cons (.v 1) .nil) .nil [])).e) (ρ := [some (.lst (X.map dL)), none]) (μ := []) dL (fun c => [some (.lst (X.map dL)), some (dL c)]) (fun _ => .bl true) X [] (fun c hc => by
      have e : ∀ μ, callD (denF f_is_content) [dL c] μ = .ok (.bl true) μ := fun μ => call0 (r_is_content (ct c hc) m1 m8 (by omega)) (by simp [frzL, dL]) (by simp [dL]) rfl rfl
      refine ⟨by simp [dL], by simp, ?_⟩
      simp [-callD, e]) (by simp; omega)
    refine lc_of (ds := X.map dL) (lv := []) (μ1 := []) (by simp) ?_
    simpa using this
  have h0 : ∃ c0 Y, X = c0 :: Y := by
    cases X with
    | nil => simp at hl; omega
    | cons c Y => exact ⟨c, Y, rfl⟩
  have c1 : (ev f_need_pots_c1).e [some (.lst (X.map dL)), none] [] = .ok (.new (X.map fun _ => .bl true)) [] := by
    have := lcS_map (tg := .nm 1) (tst := evTs .nil) (elt := (ev (.cmp (.bi .len (.cons (.v 1) .nil)) (.cons .eq (.bi .len (.cons (.ix (.v 0) (.k (.int 0))) .nil)) .nil))).e) (ρ := [some (.lst (X.map dL)), none]) (μ := []) dL (fun c => [some (.lst (X.map dL)), some (dL c)]) (fun _ => .bl true) X [] (fun c hc => by
      refine ⟨by simp [dL], by simp, ?_⟩
      obtain ⟨x0, Y, rfl⟩ := h0
      have l1 := (ct c hc).len
      have l2 := (ct x0 List.mem_cons_self).len
      have e1 : (dI c).length = m := by simp [dI, l1]
      have e2 : (dI x0).length = m := by simp [dI, l2]
      simp [dL, e1, e2]) (by simp; omega)
    refine lc_of (ds := X.map dL) (lv := []) (μ1 := []) (by simp) ?_
    simpa using this
  have hb : boolsOf (X.map fun _ => D.bl true) = some (X.map fun _ => true) := by
    clear c0 c1 ct hl h0 hX
    induction X with
    | nil => rfl
    | cons x X ih => simp [boolsOf, ih]
  have ha : (X.map fun _ => true).all id = true := by simp
  have hlen : (X.map dL).length = n := by simp [hl]
  have g1 : (2 : Int) ≤ (n : Int) := by omega
  have g2 : (n : Int) ≤ 8 := by omega
  generalize (X.map fun _ => D.bl true) = T at *
  generalize (X.map fun _ => true) = T' at *
  generalize X.map dL = L at *
  unfold runF
  simp [f_need_pots, -callD, c0, c1, hb, ha, hlen, g1, g2]
end
section
variable {m n : Nat}
theorem map_dL_set (X : List (List Int)) (i : Nat) (x : List Int) : (X.map dL).set i (.lst (dI x)) = (X.set i x).map dL := by
  rw [List.map_set]; rfl
end
theorem add_lt'' {x y : Int} {n : Nat} (hx : x.natAbs < 2 ^ n) (hy : y.natAbs < 2 ^ n) : (x + y).natAbs < 2 ^ (n + 1) := by rw [Nat.pow_succ]; omega
theorem sub_lt'' {x y : Int} {n : Nat} (hx : x.natAbs < 2 ^ n) (hy : y.natAbs < 2 ^ n) : (x - y).natAbs < 2 ^ (n + 1) := by rw [Nat.pow_succ]; omega
theorem zip_mm {α : Type} (Z : List α) (f g : α → Int) (k : Int × Int → Int) : ((Z.map f).zip (Z.map g)).map k = Z.map fun z => k (f z, g z) := by
  rw [List.zip_map', List.map_map]; rfl
theorem mem_mm {α : Type} {Z : List α} {f g : α → Int} {y : Int × Int} (h : y ∈ (Z.map f).zip (Z.map g)) : ∃ z, z ∈ Z ∧ y = (f z, g z) := by
  rw [List.zip_map'] at h
  obtain ⟨z, hz, e⟩ := List.mem_map.mp h
  exact ⟨z, hz, e.symm⟩
section
variable {Z : List (Int × Int)} {p q a b : Int} {N : Nat}
theorem r_poured0 (hl : Z.length ≤ 100) (hN : N ≤ 3000) (hx : ∀ z ∈ Z, z.1.natAbs < 2 ^ N ∧ z.2.natAbs < 2 ^ N) (ha : (Z.map (·.1)).sum = a) (hb : (Z.map (·.2)).sum = b) (la : a.natAbs < 2 ^ N) (lb : b.natAbs < 2 ^ N) (hp : 1 ≤ p) (hpq : p ≤ q) (hq : q ≤ 100)
    (x0 : ∀ z ∈ Z, 0 ≤ z.1 ∧ 0 ≤ z.2) (a0 : 0 < a) (b0 : 0 < b) :
    runF f__law_poured [.lst (dI (Z.map (·.1))), .lst (dI (Z.map (·.2))), .tup [.int p, .int q]] [] = .ok (.tup [.new (dI (plain (Z.map fun z => q * (b * z.1) + p * (a * z.2)))), .new (dI (plain (Z.map fun z => q * (a * z.2) + p * (b * z.1))))]) [] := by
  have lp : p.natAbs < 2 ^ 7 := by omega
  have lq : q.natAbs < 2 ^ 7 := by omega
  have lpq : (p + q).natAbs < 2 ^ 8 := by omega
  -- the bounds of each number
  have t1 := fun z (hz : z ∈ Z) => mul_lt'' lq (hx z hz).1
  have t2 := fun z (hz : z ∈ Z) => mul_lt'' (t1 z hz) lb
  have t3 := fun z (hz : z ∈ Z) => mul_lt'' lq (hx z hz).2
  have t4 := fun z (hz : z ∈ Z) => mul_lt'' (t3 z hz) la
  have t5 := fun z (hz : z ∈ Z) => mul_lt'' lp (hx z hz).1
  have t6 := fun z (hz : z ∈ Z) => mul_lt'' (t5 z hz) lb
  have t7 := fun z (hz : z ∈ Z) => sub_lt'' (t2 z hz) (t6 z hz)
  have t8 := fun z (hz : z ∈ Z) => add_lt'' (t4 z hz) (t6 z hz)
  have t9 := fun z (hz : z ∈ Z) => mul_lt'' lp (t8 z hz)
  have t10 := fun z (hz : z ∈ Z) => mul_lt'' lpq (t7 z hz)
  have t11 := fun z (hz : z ∈ Z) => mul_lt'' lpq (t8 z hz)
  have l1 : (Z.map (·.1)).length ≤ 1000 := by simp; omega
  have l2 : (Z.map (·.2)).length ≤ 1000 := by simp; omega
  have lm : ∀ f : Int × Int → Int, (Z.map f).length ≤ 1000 := fun f => by simp; omega
  have c0 : ∀ r3 r4 r5 r6, (ev f__law_poured_c0).e [some (.lst (dI (Z.map (·.1)))), some (.lst (dI (Z.map (·.2)))), some (.tup [.int p, .int q]), r3, r4, r5, r6, some (.int p), some (.int q), some (.int a), some (.int b), none, none] [] = .ok (.new (dI (Z.map fun z => q * z.1 * b))) [] := fun r3 r4 r5 r6 => by
    have := lc_s (elt := .bin .mul (.bin .mul (.v 8) (.v 11)) (.v 10)) (ex := .v 0) (r0 := some (.lst (dI (Z.map (·.1))))) (r1 := some (.lst (dI (Z.map (·.2))))) (r2 := some (.tup [.int p, .int q])) (r3 := r3) (r4 := r4) (r5 := r5) (r6 := r6) (r7 := some (.int p)) (r8 := some (.int q)) (r9 := some (.int a)) (r10 := some (.int b)) (X := Z.map (·.1)) (μ := []) (fun x => q * x * b) l1 (by simp) fun x hx' => by
      obtain ⟨z, hz, rfl⟩ := List.mem_map.mp hx'
      have m1 := mulOk_of _ _ lq (hx z hz).1 (by omega)
      have m2 := mulOk_of _ _ (t1 z hz) lb (by omega)
      simp [m1, m2]
    rw [List.map_map] at this
    exact this
  have c1 : ∀ r3 r4 r5 r6, (ev f__law_poured_c1).e [some (.lst (dI (Z.map (·.1)))), some (.lst (dI (Z.map (·.2)))), some (.tup [.int p, .int q]), r3, r4, r5, r6, some (.int p), some (.int q), some (.int a), some (.int b), none, none] [] = .ok (.new (dI (Z.map fun z => q * z.2 * a))) [] := fun r3 r4 r5 r6 => by
    have := lc_s (elt := .bin .mul (.bin .mul (.v 8) (.v 11)) (.v 9)) (ex := .v 1) (r0 := some (.lst (dI (Z.map (·.1))))) (r1 := some (.lst (dI (Z.map (·.2))))) (r2 := some (.tup [.int p, .int q])) (r3 := r3) (r4 := r4) (r5 := r5) (r6 := r6) (r7 := some (.int p)) (r8 := some (.int q)) (r9 := some (.int a)) (r10 := some (.int b)) (X := Z.map (·.2)) (μ := []) (fun x => q * x * a) l2 (by simp) fun x hx' => by
      obtain ⟨z, hz, rfl⟩ := List.mem_map.mp hx'
      have m1 := mulOk_of _ _ lq (hx z hz).2 (by omega)
      have m2 := mulOk_of _ _ (t3 z hz) la (by omega)
      simp [m1, m2]
    rw [List.map_map] at this
    exact this
  have c2 : ∀ r3 r4 r5 r6, (ev f__law_poured_c2).e [some (.lst (dI (Z.map (·.1)))), some (.lst (dI (Z.map (·.2)))), some (.tup [.int p, .int q]), r3, r4, r5, r6, some (.int p), some (.int q), some (.int a), some (.int b), none, none] [] = .ok (.new (dI (Z.map fun z => p * z.1 * b))) [] := fun r3 r4 r5 r6 => by
    have := lc_s (elt := .bin .mul (.bin .mul (.v 7) (.v 11)) (.v 10)) (ex := .v 0) (r0 := some (.lst (dI (Z.map (·.1))))) (r1 := some (.lst (dI (Z.map (·.2))))) (r2 := some (.tup [.int p, .int q])) (r3 := r3) (r4 := r4) (r5 := r5) (r6 := r6) (r7 := some (.int p)) (r8 := some (.int q)) (r9 := some (.int a)) (r10 := some (.int b)) (X := Z.map (·.1)) (μ := []) (fun x => p * x * b) l1 (by simp) fun x hx' => by
      obtain ⟨z, hz, rfl⟩ := List.mem_map.mp hx'
      have m1 := mulOk_of _ _ lp (hx z hz).1 (by omega)
      have m2 := mulOk_of _ _ (t5 z hz) lb (by omega)
      simp [m1, m2]
    rw [List.map_map] at this
    exact this
  have c3 : ∀ r0 r1 r2 r4 r6 r7 r8 r9 r10, (ev f__law_poured_c3).e [r0, r1, r2, some (.lst (dI (Z.map fun z => q * z.1 * b))), r4, some (.lst (dI (Z.map fun z => p * z.1 * b))), r6, r7, r8, r9, r10, none, none] [] = .ok (.new (dI (Z.map fun z => q * z.1 * b - p * z.1 * b))) [] := fun r0 r1 r2 r4 r6 r7 r8 r9 r10 => by
    have := lc_z (elt := .bin .sub (.v 11) (.v 12)) (ex := .v 3) (ey := .v 5) (r0 := r0) (r1 := r1) (r2 := r2) (r3 := some (.lst (dI (Z.map fun z => q * z.1 * b)))) (r4 := r4) (r5 := some (.lst (dI (Z.map fun z => p * z.1 * b)))) (r6 := r6) (r7 := r7) (r8 := r8) (r9 := r9) (r10 := r10) (X := Z.map fun z => q * z.1 * b) (Y := Z.map fun z => p * z.1 * b) (μ := []) (fun y => y.1 - y.2) (lm _) (by simp) (by simp) fun y hy => by simp
    rw [zip_mm] at this
    exact this
  have c4 : ∀ r0 r1 r2 r3 r6 r7 r8 r9 r10, (ev f__law_poured_c4).e [r0, r1, r2, r3, some (.lst (dI (Z.map fun z => q * z.2 * a))), some (.lst (dI (Z.map fun z => p * z.1 * b))), r6, r7, r8, r9, r10, none, none] [] = .ok (.new (dI (Z.map fun z => q * z.2 * a + p * z.1 * b))) [] := fun r0 r1 r2 r3 r6 r7 r8 r9 r10 => by
    have := lc_z (elt := .bin .add (.v 11) (.v 12)) (ex := .v 4) (ey := .v 5) (r0 := r0) (r1 := r1) (r2 := r2) (r3 := r3) (r4 := some (.lst (dI (Z.map fun z => q * z.2 * a)))) (r5 := some (.lst (dI (Z.map fun z => p * z.1 * b)))) (r6 := r6) (r7 := r7) (r8 := r8) (r9 := r9) (r10 := r10) (X := Z.map fun z => q * z.2 * a) (Y := Z.map fun z => p * z.1 * b) (μ := []) (fun y => y.1 + y.2) (lm _) (by simp) (by simp) fun y hy => by simp
    rw [zip_mm] at this
    exact this
  have c5 : ∀ r0 r1 r2 r3 r5 r6 r8 r9 r10, (ev f__law_poured_c5).e [r0, r1, r2, r3, some (.lst (dI (Z.map fun z => q * z.2 * a + p * z.1 * b))), r5, r6, some (.int p), r8, r9, r10, none, none] [] = .ok (.new (dI (Z.map fun z => p * (q * z.2 * a + p * z.1 * b)))) [] := fun r0 r1 r2 r3 r5 r6 r8 r9 r10 => by
    have := lc_s (elt := .bin .mul (.v 7) (.v 11)) (ex := .v 4) (r0 := r0) (r1 := r1) (r2 := r2) (r3 := r3) (r4 := some (.lst (dI (Z.map fun z => q * z.2 * a + p * z.1 * b)))) (r5 := r5) (r6 := r6) (r7 := some (.int p)) (r8 := r8) (r9 := r9) (r10 := r10) (X := Z.map fun z => q * z.2 * a + p * z.1 * b) (μ := []) (fun x => p * x) (lm _) (by simp) fun x hx' => by
      obtain ⟨z, hz, rfl⟩ := List.mem_map.mp hx'
      have m1 := mulOk_of _ _ lp (t8 z hz) (by omega)
      simp [m1]
    rw [List.map_map] at this
    exact this
  have c6 : ∀ r0 r1 r2 r4 r5 r9 r10, (ev f__law_poured_c6).e [r0, r1, r2, some (.lst (dI (Z.map fun z => q * z.1 * b - p * z.1 * b))), r4, r5, some (.lst (dI (Z.map fun z => p * (q * z.2 * a + p * z.1 * b)))), some (.int p), some (.int q), r9, r10, none, none] [] = .ok (.new (dI (Z.map fun z => (p + q) * (q * z.1 * b - p * z.1 * b) + p * (q * z.2 * a + p * z.1 * b)))) [] := fun r0 r1 r2 r4 r5 r9 r10 => by
    have := lc_z (elt := .bin .add (.bin .mul (.bin .add (.v 7) (.v 8)) (.v 11)) (.v 12)) (ex := .v 3) (ey := .v 6) (r0 := r0) (r1 := r1) (r2 := r2) (r3 := some (.lst (dI (Z.map fun z => q * z.1 * b - p * z.1 * b)))) (r4 := r4) (r5 := r5) (r6 := some (.lst (dI (Z.map fun z => p * (q * z.2 * a + p * z.1 * b))))) (r7 := some (.int p)) (r8 := some (.int q)) (r9 := r9) (r10 := r10) (X := Z.map fun z => q * z.1 * b - p * z.1 * b) (Y := Z.map fun z => p * (q * z.2 * a + p * z.1 * b)) (μ := []) (fun y => (p + q) * y.1 + y.2) (lm _) (by simp) (by simp) fun y hy => by
      obtain ⟨z, hz, rfl⟩ := mem_mm hy
      have m1 := mulOk_of _ _ lpq (t7 z hz) (by omega)
      simp [m1]
    rw [zip_mm] at this
    exact this
  have c7 : ∀ r0 r1 r2 r3 r5 r9 r10, (ev f__law_poured_c7).e [r0, r1, r2, r3, some (.lst (dI (Z.map fun z => q * z.2 * a + p * z.1 * b))), r5, some (.lst (dI (Z.map fun z => p * (q * z.2 * a + p * z.1 * b)))), some (.int p), some (.int q), r9, r10, none, none] [] = .ok (.new (dI (Z.map fun z => (p + q) * (q * z.2 * a + p * z.1 * b) - p * (q * z.2 * a + p * z.1 * b)))) [] := fun r0 r1 r2 r3 r5 r9 r10 => by
    have := lc_z (elt := .bin .sub (.bin .mul (.bin .add (.v 7) (.v 8)) (.v 11)) (.v 12)) (ex := .v 4) (ey := .v 6) (r0 := r0) (r1 := r1) (r2 := r2) (r3 := r3) (r4 := some (.lst (dI (Z.map fun z => q * z.2 * a + p * z.1 * b)))) (r5 := r5) (r6 := some (.lst (dI (Z.map fun z => p * (q * z.2 * a + p * z.1 * b))))) (r7 := some (.int p)) (r8 := some (.int q)) (r9 := r9) (r10 := r10) (X := Z.map fun z => q * z.2 * a + p * z.1 * b) (Y := Z.map fun z => p * (q * z.2 * a + p * z.1 * b)) (μ := []) (fun y => (p + q) * y.1 - y.2) (lm _) (by simp) (by simp) fun y hy => by
      obtain ⟨z, hz, rfl⟩ := mem_mm hy
      have m1 := mulOk_of _ _ lpq (t8 z hz) (by omega)
      simp [m1]
    rw [zip_mm] at this
    exact this
  have e6 : (Z.map fun z => (p + q) * (q * z.1 * b - p * z.1 * b) + p * (q * z.2 * a + p * z.1 * b)) = (Z.map fun z => q * (b * z.1) + p * (a * z.2)).map (q * ·) := by
    rw [List.map_map]
    refine List.map_congr_left fun z _ => ?_
    simp only [Function.comp_def]
    grind
  have e7 : (Z.map fun z => (p + q) * (q * z.2 * a + p * z.1 * b) - p * (q * z.2 * a + p * z.1 * b)) = (Z.map fun z => q * (a * z.2) + p * (b * z.1)).map (q * ·) := by
    rw [List.map_map]
    refine List.map_congr_left fun z _ => ?_
    simp only [Function.comp_def]
    grind
  have w0 : ∀ z ∈ Z, 0 ≤ b * z.1 ∧ 0 ≤ a * z.2 := fun z hz => ⟨Int.mul_nonneg (by omega) (x0 z hz).1, Int.mul_nonneg (by omega) (x0 z hz).2⟩
  have wb : ∀ z ∈ Z, (b * z.1).natAbs < 2 ^ (N + N) ∧ (a * z.2).natAbs < 2 ^ (N + N) := fun z hz => ⟨mul_lt'' lb (hx z hz).1, mul_lt'' la (hx z hz).2⟩
  have nnv : ∀ {u v : Int}, 0 ≤ u → 0 ≤ v → u.natAbs < 2 ^ (N + N) → v.natAbs < 2 ^ (N + N) → 0 ≤ q * (q * u + p * v) ∧ q * (q * u + p * v) < 2 ^ (7 + (7 + (N + N) + 1)) := fun {u v} u0 v0 lu lv => by
    have h1 := mul_lt'' lq (add_lt'' (mul_lt'' lq lu) (mul_lt'' lp lv))
    have h2 : 0 ≤ q * (q * u + p * v) := Int.mul_nonneg (by omega) (Int.add_nonneg (Int.mul_nonneg (by omega) u0) (Int.mul_nonneg (by omega) v0))
    refine ⟨h2, ?_⟩
    have h3 : ((q * (q * u + p * v)).natAbs : Int) < ((2 ^ (7 + (7 + (N + N) + 1)) : Nat) : Int) := by exact_mod_cast h1
    rw [Int.natAbs_of_nonneg h2] at h3
    simpa using h3
  have bd6 : Bd (7 + (7 + (N + N) + 1)) ((Z.map fun z => q * (b * z.1) + p * (a * z.2)).map (q * ·)) := fun y hy => by
    rw [List.map_map] at hy
    obtain ⟨z, hz, rfl⟩ := List.mem_map.mp hy
    exact nnv (w0 z hz).1 (w0 z hz).2 (wb z hz).1 (wb z hz).2
  have bd7 : Bd (7 + (7 + (N + N) + 1)) ((Z.map fun z => q * (a * z.2) + p * (b * z.1)).map (q * ·)) := fun y hy => by
    rw [List.map_map] at hy
    obtain ⟨z, hz, rfl⟩ := List.mem_map.mp hy
    exact nnv (w0 z hz).2 (w0 z hz).1 (wb z hz).2 (wb z hz).1
  have sm : ∀ (s t : Int) (Z : List (Int × Int)), (Z.map fun z => s * z.1 + t * z.2).sum = s * (Z.map (·.1)).sum + t * (Z.map (·.2)).sum := fun s t Z => by
    induction Z with
    | nil => simp
    | cons z Z ih =>
      rw [List.map_cons, List.sum_cons, ih, List.map_cons, List.sum_cons, List.map_cons, List.sum_cons]
      grind
  have hab : 0 < a * b := Int.mul_pos a0 b0
  have qp : 0 < q * ((q + p) * (a * b)) := Int.mul_pos (by omega) (Int.mul_pos (by omega) hab)
  have s6 : 0 < ((Z.map fun z => q * (b * z.1) + p * (a * z.2)).map (q * ·)).sum := by
    rw [sum_mul]
    have e : (Z.map fun z => q * (b * z.1) + p * (a * z.2)) = Z.map fun z => (q * b) * z.1 + (p * a) * z.2 := List.map_congr_left fun z _ => by grind
    rw [e, sm, ha, hb]
    have : q * (q * b * a + p * a * b) = q * ((q + p) * (a * b)) := by grind
    rw [this]; exact qp
  have s7 : 0 < ((Z.map fun z => q * (a * z.2) + p * (b * z.1)).map (q * ·)).sum := by
    rw [sum_mul]
    have e : (Z.map fun z => q * (a * z.2) + p * (b * z.1)) = Z.map fun z => (p * b) * z.1 + (q * a) * z.2 := List.map_congr_left fun z _ => by grind
    rw [e, sm, ha, hb]
    have : q * (p * b * a + q * a * b) = q * ((q + p) * (a * b)) := by grind
    rw [this]; exact qp
  have r6 := fun μ => reducedC (d := .lst (dI ((Z.map fun z => q * (b * z.1) + p * (a * z.2)).map (q * ·)))) rfl (by omega) bd6 s6 (by simp; omega) μ
  have r7 := fun μ => reducedC (d := .lst (dI ((Z.map fun z => q * (a * z.2) + p * (b * z.1)).map (q * ·)))) rfl (by omega) bd7 s7 (by simp; omega) μ
  rw [e6] at c6
  rw [e7] at c7
  rw [plain_scale (by omega)] at r6 r7
  have sa := intsOf_dI (Z.map (·.1))
  have sb := intsOf_dI (Z.map (·.2))
  have f1 := frzL_dI (Z.map fun z => q * z.1 * b)
  have f2 := frzL_dI (Z.map fun z => q * z.2 * a)
  have f3 := frzL_dI (Z.map fun z => p * z.1 * b)
  have f4 := frzL_dI (Z.map fun z => q * z.1 * b - p * z.1 * b)
  have f5 := frzL_dI (Z.map fun z => q * z.2 * a + p * z.1 * b)
  have f6 := frzL_dI (Z.map fun z => p * (q * z.2 * a + p * z.1 * b))
  have f7 := frzL_dI ((Z.map fun z => q * (b * z.1) + p * (a * z.2)).map (q * ·))
  have f8 := frzL_dI ((Z.map fun z => q * (a * z.2) + p * (b * z.1)).map (q * ·))
  have n1 := fun k => noPtrL_dI k (plain (Z.map fun z => q * (b * z.1) + p * (a * z.2)))
  have n2 := fun k => noPtrL_dI k (plain (Z.map fun z => q * (a * z.2) + p * (b * z.1)))
  clear e6 e7 bd6 bd7 s6 s7 t1 t2 t3 t4 t5 t6 t7 t8 t9 t10 t11 lm l1 l2 nnv w0 wb sm qp hx x0
  generalize dI (plain (Z.map fun z => q * (b * z.1) + p * (a * z.2))) = P6 at *
  generalize dI (plain (Z.map fun z => q * (a * z.2) + p * (b * z.1))) = P7 at *
  generalize dI ((Z.map fun z => q * (b * z.1) + p * (a * z.2)).map (q * ·)) = Q6 at *
  generalize dI ((Z.map fun z => q * (a * z.2) + p * (b * z.1)).map (q * ·)) = Q7 at *
  generalize dI (Z.map fun z => q * z.1 * b) = L1 at *
  generalize dI (Z.map fun z => q * z.2 * a) = L2' at *
  generalize dI (Z.map fun z => p * z.1 * b) = L3' at *
  generalize dI (Z.map fun z => q * z.1 * b - p * z.1 * b) = L4 at *
  generalize dI (Z.map fun z => q * z.2 * a + p * z.1 * b) = L5 at *
  generalize dI (Z.map fun z => p * (q * z.2 * a + p * z.1 * b)) = L6 at *
  generalize dI (Z.map (·.1)) = C at *
  generalize dI (Z.map (·.2)) = D at *
  generalize Z.map (·.1) = cX at *
  generalize Z.map (·.2) = cY at *
  unfold runF
  simp [f__law_poured, -callD, bindT, bindAll, ha, hb, sa, sb, c0, c1, c2, c3, c4, c5, c6, c7, f1, f2, f3, f4, f5, f6, f7, f8, r6, r7, n1, n2]
end
theorem BJ.cons {n : Nat} {μ : Store} (h : BJ n 0 μ) : ∃ cs p cur st ct r, μ = CB cs p cur st ct :: r ∧ BB n cs p cur st ct := by
  obtain ⟨cs, p, cur, st, ct, h1, h2⟩ := h
  cases μ with
  | nil => simp at h1
  | cons x r =>
    simp at h1
    subst h1
    exact ⟨cs, p, cur, st, ct, r, rfl, h2⟩
/-- (f__law_cup_p2) -/
theorem cupS {n : Nat} {most : Int} {r : Store} (h1 : 1 ≤ most) (h100 : most ≤ 100) (hn : n ≤ 10 ^ 14) {cs : List Int} {p cur st ct : Int} (h : BB n cs p cur st ct) :
    ∃ q p' cur' st' ct', callD (denF f__law_cup) [.ptr 0, .int most] (CB cs p cur st ct :: r) = .ok (dP q) (CB cs p' cur' st' ct' :: r) ∧ BB (n + 3) cs p' cur' st' ct' ∧ Cup q := by
  obtain ⟨d, p', cur', st', ct', h1, h2, q, rfl, h4⟩ := callBS (f := f__law_cup) (k := 0) (μ := CB cs p cur st ct :: r) (xs := [.int most]) (Q' := BB (n + 3)) (P := fun d => ∃ q, d = dP q ∧ Cup q) rfl rfl rfl rfl (r__law_cup h1 h100 hn h)
  exact ⟨q, p', cur', st', ct', h1, h2, h4⟩
theorem other_pot {n i v : Nat} (hi : i < n) (hv : v < n - 1) : (i + 1 + v) % n < n ∧ i ≠ (i + 1 + v) % n := by
  refine ⟨Nat.mod_lt _ (by omega), ?_⟩
  rcases Nat.lt_or_ge (i + 1 + v) n with h | h
  · rw [Nat.mod_eq_of_lt h]; omega
  · rw [Nat.mod_eq_sub_mod h, Nat.mod_eq_of_lt (by omega)]; omega
theorem get_end (x : Cell) (r : Store) (y : Cell) : (x :: (r ++ [y]))[r.length + 1]? = some y := by simp
theorem set_end (x : Cell) (r : Store) (y z : Cell) : (x :: (r ++ [y])).set (r.length + 1) z = x :: (r ++ [z]) := by simp
theorem rloop' {t c : Nat} {e : E} {b : Ss} (I : Nat → Slots → Store → Prop) {ρ : Slots} {μ μ1 : Store} (hr : evI (.rng (.cons e .nil)) ρ μ = .ok ⟨rangeL 0 1 c, []⟩ μ1) (h0 : I 0 ρ μ1)
    (step : ∀ i ρ μ, i < c → I i ρ μ → ∃ ρ1 ρ2 μ2, bindT (.nm t) (.int (i : Int)) ρ = some ρ1 ∧ exSs b ρ1 μ = .ok (.nx ρ2) μ2 ∧ I (i + 1) ρ2 μ2) :
    ∃ ρ2 μ2, exS (.frs (.nm t) (.rng (.cons e .nil)) b) ρ μ = .ok (.nx ρ2) μ2 ∧ I c ρ2 μ2 := by
  obtain ⟨ρ2, μ2, h1, h2⟩ := forS_inv (tg := .nm t) (b := exSs b) I (rangeL 0 1 c) 0 ρ μ1 h0 fun i d ρ μ hd hI => by
    have hi : i < c := by have := (List.getElem?_eq_some_iff.mp hd).1; simpa [rangeL_len] using this
    rw [rangeL_get c i 0 1 hi] at hd
    cases hd
    rw [Nat.zero_add] at hI ⊢
    obtain ⟨ρ1, ρ2, μ2, q1, q2, q3⟩ := step i ρ μ hi hI
    exact ⟨ρ1, ρ2, μ2, by simpa using q1, q2, q3⟩
  exact ⟨ρ2, μ2, fr_of hr h1, by simpa [rangeL_len] using h2⟩
theorem rngE' {e : E} {ρ : Slots} {μ μ1 : Store} {c : Nat} (hc : c ≤ 1000) (h : (ev e).e ρ μ = .ok (.int (c : Int)) μ1) : evI (.rng (.cons e .nil)) ρ μ = .ok ⟨rangeL 0 1 c, []⟩ μ1 := by
  simp [h, rangeD, small62_nat (i := (c : Int)) (by omega) (by omega)]
theorem lc_bagQ {α : Type} (f : α → D) (P : α → Prop) {elt : E} {t : Nat} {ρ : Slots} {n j s m : Nat} {μ : Store} (hm : m ≤ 1000) (hs : s ≤ 1000) (hn : n ≤ 10 ^ 8) (ht : t < ρ.length) (h : BJ n j μ)
    (he : ∀ (i : Int) (n' : Nat) (μ : Store), n' ≤ 2 * 10 ^ 8 → BJ n' j μ → ∃ p μ', (ev elt).e (ρ.set t (some (.int i))) μ = .ok (f p) μ' ∧ BJ (n' + s) j μ' ∧ μ'.length = μ.length ∧ P p) :
    ∃ (ps : List α) (μ' : Store), lcS (.nm t) (evTs .nil) (ev elt).e [] ρ (rangeL 0 1 m) [] μ = .ok (.new (ps.map f)) μ' ∧ BJ (n + m * s) j μ' ∧ μ'.length = μ.length ∧ ps.length = m ∧ ∀ p ∈ ps, P p := by
  have bound : ∀ i, i ≤ m → n + i * s ≤ 2 * 10 ^ 8 := fun i hi => by
    have : i * s ≤ 1000 * 1000 := Nat.mul_le_mul (by omega) hs
    omega
  obtain ⟨ys, μ', h1, ⟨h2, h3⟩, h4, h5⟩ := lcS_inv (tg := .nm t) (elt := (ev elt).e) (ρ := ρ) (fun i μ' => BJ (n + i * s) j μ' ∧ μ'.length = μ.length) (fun y => ∃ p, y = f p ∧ P p) (rangeL 0 1 m) [] 0 μ ⟨by simpa using h, rfl⟩ (by simp [rangeL_len]; omega) fun i d μ2 hd ⟨k1, k2⟩ => by
    have hi : i < m := by have := (List.getElem?_eq_some_iff.mp hd).1; simpa [rangeL_len] using this
    rw [rangeL_get m i 0 1 hi] at hd
    cases hd
    rw [Nat.zero_add] at k1 ⊢
    obtain ⟨p, μ3, q1, q2, q3, q4⟩ := he (0 + (i : Int) * 1) (n + i * s) μ2 (bound i (by omega)) k1
    exact ⟨ρ.set t (some (.int (0 + (i : Int) * 1))), f p, μ3, by simp [ht], q1, ⟨by rw [Nat.add_mul, Nat.one_mul, ← Nat.add_assoc]; exact q2, q3.trans k2⟩, p, rfl, q4⟩
  rw [rangeL_len, Nat.zero_add] at h2
  rw [rangeL_len] at h4
  have : ∃ ps : List α, ys = ps.map f ∧ ∀ p ∈ ps, P p := by
    clear h1 h4
    induction ys with
    | nil => exact ⟨[], rfl, by simp⟩
    | cons y ys ih =>
      obtain ⟨p, rfl, hp⟩ := h5 y List.mem_cons_self
      obtain ⟨ps, rfl, hps⟩ := ih fun z hz => h5 z (List.mem_cons_of_mem _ hz)
      exact ⟨p :: ps, rfl, fun q hq => by
        rcases List.mem_cons.mp hq with rfl | hq
        · exact hp
        · exact hps q hq⟩
  obtain ⟨ps, rfl, hps⟩ := this
  exact ⟨ps, μ', by simpa using h1, h2, h3, by simpa using h4, hps⟩
theorem hd_plus : ∀ (a b : Nat) (s t : Ss), hdS a s (hdS b (tlS a s) t) = hdS (a + b) s t
  | 0, b, s, t => by simp [hdS, tlS]
  | a + 1, b, .cons x s, t => by
    rw [show a + 1 + b = (a + b) + 1 by omega, hdS, hdS, tlS, hd_plus a b s t]
  | a + 1, b, .nil, t => by
    rw [show a + 1 + b = (a + b) + 1 by omega, hdS, hdS, tlS]
    cases b <;> rfl
theorem plain_one2 {xs : List Int} (h : gl 0 xs = 1) : plain xs = xs := by
  unfold plain
  rw [h]
  simp
section
variable {c d : List Int} {m B : Nat} {p : Int × Int}
theorem pouredC {e1 e2 : D} (h1 : frz e1 = .lst (dI c)) (h2 : frz e2 = .lst (dI d)) (hc : Ct m B c) (hd : Ct m B d) (m8 : m ≤ 8) (hB : B ≤ 2900) (hp : Cup p) (μ : Store) : callD (denF f__law_poured) [e1, e2, dP p] μ = .ok (.tup [.new (dI (pb p c d)), .new (dI (pb p d c))]) μ := by
  obtain ⟨k1, k2, k3, _⟩ := id hp
  have nc := hc.nn' m8
  have nd := hd.nn' m8
  have hl : c.length = d.length := by rw [hc.len, hd.len]
  obtain ⟨z1, z2⟩ := zip_fst hl
  have r := r_poured0 (Z := c.zip d) (p := p.1) (q := p.2) (a := c.sum) (b := d.sum) (N := B + 4) (by have := hc.len; simp; omega) (by omega) (fun z hz => by
    have hz2 := List.of_mem_zip (show (z.1, z.2) ∈ _ from hz)
    exact ⟨nc.eA hz2.1, nd.eA hz2.2⟩) (by rw [z1]) (by rw [z2]) nc.sA nd.sA k1 k2 k3 (fun z hz => by
    have hz2 := List.of_mem_zip (show (z.1, z.2) ∈ _ from hz)
    exact ⟨(hc.bd _ hz2.1).1, (hd.bd _ hz2.2).1⟩) hc.pos hd.pos
  rw [z1, z2] at r
  obtain ⟨e3, e4⟩ := mixU_zip p.2 p.1 d.sum c.sum c d
  rw [← e3, ← e4] at r
  exact call0 (es := [.lst (dI c), .lst (dI d), dP p]) r (by simp [frzL, frz, h1, h2]) (by simp [noPtrL, noPtr]) rfl (by simp [noPtrL, noPtr])
end
end Law

namespace Law
open Pyf
open PySem (Str PyData sizeLine)
/-! pots whose contents lie in cells of their own -/
theorem callP2 {f : Fn} {k l : Nat} {Q R : List D} {d : D} {xs : List D} {μ : Store} (h : runF f (.ptr 0 :: .ptr 1 :: xs) [.lst Q, .lst R] = .ok d [.lst Q, .lst R]) (hk : μ[k]? = some (.lst Q)) (hl' : μ[l]? = some (.lst R)) (hkl : k ≠ l) (hl : f.ps.length = xs.length + 2) (hx : frzL xs = xs) (hxn : noPtrL 0 xs = true) (hn : noPtrL 0 Q = true) (hn2 : noPtrL 0 R = true) (hd : noPtr 0 d = true) : callD (denF f) (.ptr k :: .ptr l :: xs) μ = .ok d μ := by
  obtain ⟨p1, p2, p3⟩ := plain_args xs hxn
  have e1 : frzL (D.ptr k :: D.ptr l :: xs) = .ptr k :: .ptr l :: xs := by simp [frzL, frz, hx]
  have e2 : ptrs (D.ptr k :: D.ptr l :: xs) = [k, l] := by simp [ptrs, p1]
  have e3 : renum 0 (D.ptr k :: D.ptr l :: xs) = .ptr 0 :: .ptr 1 :: xs := by simp [renum, p2]
  have e4 : getCs μ [k, l] = some [.lst Q, .lst R] := by simp only [getCs, hk, hl']; rw [if_pos hn2]; simp only; rw [if_pos hn]
  have e5 : (D.ptr k :: D.ptr l :: xs).all okA = true := by rw [List.all_cons, List.all_cons, p3]; rfl
  unfold callD
  rw [e1, e2, e3, if_pos ⟨by simp [hl], e5, by simp [hkl]⟩, e4]
  simp only [denF_run, h]
  have c : cellIn 0 (.lst Q) = true := hn
  have c2 : cellIn 0 (.lst R) = true := hn2
  rw [if_pos ⟨hd, rfl, by simp [c, c2]⟩]
  show Res.ok d ((μ.set k (.lst Q)).set l (.lst R)) = _
  congr 1
  apply List.ext_getElem?
  intro i
  have hk1 := (List.getElem?_eq_some_iff.mp hk).1
  have hl1 := (List.getElem?_eq_some_iff.mp hl').1
  rw [List.getElem?_set, List.getElem?_set]
  simp only [List.length_set]
  split
  · rename_i e; subst e; exact hl'.symm
  · split
    · rename_i e; subst e; exact hk.symm
    · rfl
section
variable {c d : List Int} {m B : Nat} {p : Int × Int}
theorem p_pot_behind (hc : Ct m B c) (hd : Ct m B d) (m8 : m ≤ 8) (hB : B ≤ 3000) (hp : Cup p) : runF f_pot_behind [.ptr 0, .ptr 1, dP p] [.lst (dI c), .lst (dI d)] = .ok (.new (dI (pb p c d))) [.lst (dI c), .lst (dI d)] := by
  have nc := hc.nn' m8
  have nd := hd.nn' m8
  have sc := nc.sA
  have sd := nd.sA
  obtain ⟨k1, k2, k3, _⟩ := id hp
  have t := pb_tw hc hd hp
  have h0 := Int.mul_pos hc.pos hd.pos
  have w := Int.mul_pos (show 0 < p.2 + p.1 by omega) h0
  have l := mul_lt'' (show (p.2 + p.1).natAbs < 2 ^ 8 by omega) (mul_lt'' sc sd)
  have hv : lvOk [(0, dI c), (1, dI d)] [.lst (dI c), .lst (dI d)] := fun q hq => by
    simp only [List.mem_cons, List.not_mem_nil, or_false] at hq
    rcases hq with rfl | rfl <;> rfl
  have hcomp : (ev f_pot_behind_c0).e [some (.ptr 0), some (.ptr 1), some (dP p), some (.int p.1), some (.int p.2), some (.int c.sum), some (.int d.sum), none, none] [.lst (dI c), .lst (dI d)] = .ok (.new (dI (mixU p.2 p.1 (c.map (d.sum * ·)) (d.map (c.sum * ·))))) [.lst (dI c), .lst (dI d)] := by
    have := lcS_mapV (lv := [(0, dI c), (1, dI d)]) (tg := .tp [7, 8]) (tst := evTs .nil) (elt := (ev (.bin .add (.bin .mul (.bin .mul (.v 4) (.v 7)) (.v 6)) (.bin .mul (.bin .mul (.v 3) (.v 8)) (.v 5)))).e) (ρ := [some (.ptr 0), some (.ptr 1), some (dP p), some (.int p.1), some (.int p.2), some (.int c.sum), some (.int d.sum), none, none]) (μ := [.lst (dI c), .lst (dI d)]) hv (fun z : Int × Int => .tup [.int z.1, .int z.2]) (fun z => [some (.ptr 0), some (.ptr 1), some (dP p), some (.int p.1), some (.int p.2), some (.int c.sum), some (.int d.sum), some (.int z.1), some (.int z.2)]) (fun z => .int (p.2 * z.1 * d.sum + p.1 * z.2 * c.sum)) (c.zip d) [] (fun z hz => by
      have hz2 := List.of_mem_zip (show (z.1, z.2) ∈ _ from hz)
      have t1 := mul_lt'' (show p.2.natAbs < 2 ^ 7 by omega) (nc.eA hz2.1)
      have t2 := mul_lt'' (show p.1.natAbs < 2 ^ 7 by omega) (nd.eA hz2.2)
      have m1 : mulOk p.2 z.1 = true := mulOk_of 7 _ (by omega) (nc.eA hz2.1) (by omega)
      have m2 : mulOk p.1 z.2 = true := mulOk_of 7 _ (by omega) (nd.eA hz2.2) (by omega)
      have m3 : mulOk (p.2 * z.1) d.sum = true := mulOk_of _ _ t1 sd (by omega)
      have m4 : mulOk (p.1 * z.2) c.sum = true := mulOk_of _ _ t2 sc (by omega)
      generalize dI c = C at *
      generalize dI d = D at *
      simp [m1, m2, m3, m4]) (by have := hc.len; simp; omega)
    refine lc_of (ds := (c.zip d).map fun z => .tup [.int z.1, .int z.2]) (lv := [(0, dI c), (1, dI d)]) (μ1 := [.lst (dI c), .lst (dI d)]) (by simp [zip_ints]) ?_
    refine Eq.trans this ?_
    rw [mix_lists]
    simp [dI, Function.comp_def]
  have hbd : Bd (8 + (B + 4 + (B + 4))) (mixU p.2 p.1 (c.map (d.sum * ·)) (d.map (c.sum * ·))) := fun x hx => by
    have h2 := le_sum t.nu x hx
    have h3 : (((p.2 + p.1) * (c.sum * d.sum)).natAbs : Int) < ((2 ^ (8 + (B + 4 + (B + 4))) : Nat) : Int) := by exact_mod_cast l
    rw [Int.natAbs_of_nonneg (Int.le_of_lt w)] at h3
    rw [t.su] at h2
    refine ⟨t.nu x hx, Int.lt_of_le_of_lt h2 ?_⟩
    simpa using h3
  have hw : ∀ μ, callD (denF f_without_divisor) [.new (dI (mixU p.2 p.1 (c.map (d.sum * ·)) (d.map (c.sum * ·))))] μ = .ok (.new (dI (pb p c d))) μ := fun μ =>
    call0 (es := [.lst (dI (mixU p.2 p.1 (c.map (d.sum * ·)) (d.map (c.sum * ·))))]) (r_without_divisor (by omega) hbd (by rw [t.su]; exact w) (by rw [t.lu]; omega)) (by simp [frzL]) (by simp) rfl (by simp)
  have s1 := intsOf_dI c
  have s2 := intsOf_dI d
  have nn := fun k => noPtrL_dI k (pb p c d)
  have nn1 := fun k => noPtrL_dI k c
  have nn2 := fun k => noPtrL_dI k d
  clear hbd t w h0 l hv
  generalize pb p c d = R at *
  generalize mixU p.2 p.1 (c.map (d.sum * ·)) (d.map (c.sum * ·)) = Q at *
  generalize dI R = R' at *
  generalize dI Q = Q' at *
  generalize dI c = C at *
  generalize dI d = D at *
  simp only [dP] at *
  unfold runF
  simp [f_pot_behind, -callD, bindT, bindAll, s1, s2, hcomp, hw, nn, nn1, nn2]
end
/-- contents in cells, told by the row of their places -/
structure Held (μ : Store) (o : Nat) (ks : List Nat) (X : List (List Int)) : Prop where
  len : ks.length = X.length
  out : μ[o]? = some (.lst (ks.map D.ptr))
  nd : ∀ a b k : Nat, ks[a]? = some k → ks[b]? = some k → a = b
  at_ : ∀ (a k : Nat) (c : List Int), ks[a]? = some k → X[a]? = some c → k ≠ o ∧ μ[k]? = some (.lst (dI c))
theorem Held.lt {μ : Store} {o : Nat} {ks : List Nat} {X : List (List Int)} (h : Held μ o ks X) {a k : Nat} (hk : ks[a]? = some k) : k < μ.length := by
  have ha := (List.getElem?_eq_some_iff.mp hk).1
  have ha2 : a < X.length := by rw [← h.len]; exact ha
  have hX : X[a]? = some X[a] := List.getElem?_eq_getElem ha2
  exact (List.getElem?_eq_some_iff.mp (h.at_ a k _ hk hX).2).1
theorem Held.step {μ : Store} {o : Nat} {ks : List Nat} {X : List (List Int)} (h : Held μ o ks X) {i j : Nat} (hi : i < X.length) (hj : j < X.length) (hij : i ≠ j) (x y : List Int) :
    Held ((μ ++ [Cell.lst (dI x), Cell.lst (dI y)]).set o (Cell.lst (((ks.set i μ.length).set j (μ.length + 1)).map D.ptr))) o ((ks.set i μ.length).set j (μ.length + 1)) ((X.set i x).set j y) := by
  have ho := (List.getElem?_eq_some_iff.mp h.out).1
  have hl := h.len
  have key : ∀ a k, ((ks.set i μ.length).set j (μ.length + 1))[a]? = some k → (a = j ∧ k = μ.length + 1) ∨ (a ≠ j ∧ a = i ∧ k = μ.length) ∨ (a ≠ j ∧ a ≠ i ∧ ks[a]? = some k) := fun a k hk => by
    rw [List.getElem?_set] at hk
    by_cases e : j = a
    · subst e
      rw [if_pos rfl, if_pos (by simp; omega)] at hk
      exact .inl ⟨rfl, (Option.some.inj hk).symm⟩
    · rw [if_neg e, List.getElem?_set] at hk
      by_cases e2 : i = a
      · subst e2
        rw [if_pos rfl, if_pos (by omega)] at hk
        exact .inr (.inl ⟨fun z => e z.symm, rfl, (Option.some.inj hk).symm⟩)
      · rw [if_neg e2] at hk
        exact .inr (.inr ⟨fun z => e z.symm, fun z => e2 z.symm, hk⟩)
  refine ⟨by simp [hl], List.getElem?_set_self (by simp; omega), fun a b k ha hb => ?_, fun a k c hk hc => ?_⟩
  · rcases key a k ha with ⟨e1, e2⟩ | ⟨e0, e1, e2⟩ | ⟨e0, e1, e2⟩ <;> rcases key b k hb with ⟨f1, f2⟩ | ⟨f0, f1, f2⟩ | ⟨f0, f1, f2⟩
    · omega
    · omega
    · have := h.lt f2; omega
    · omega
    · omega
    · have := h.lt f2; omega
    · have := h.lt e2; omega
    · have := h.lt e2; omega
    · exact h.nd a b k e2 f2
  · rcases key a k hk with ⟨rfl, rfl⟩ | ⟨e0, rfl, rfl⟩ | ⟨e0, e1, e2⟩
    · rw [List.getElem?_set_self (by simp; omega)] at hc
      cases hc
      refine ⟨by omega, ?_⟩
      rw [List.getElem?_set_ne (by omega)]
      simp
    · rw [List.getElem?_set_ne (fun z => e0 z.symm), List.getElem?_set_self hi] at hc
      cases hc
      refine ⟨by omega, ?_⟩
      rw [List.getElem?_set_ne (by omega)]
      simp
    · rw [List.getElem?_set_ne (fun z => e0 z.symm), List.getElem?_set_ne (fun z => e1 z.symm)] at hc
      obtain ⟨g1, g2⟩ := h.at_ a k c e2 hc
      have hlt := h.lt e2
      refine ⟨g1, ?_⟩
      rw [List.getElem?_set_ne (fun z => g1 z.symm), List.getElem?_append_left hlt]
      exact g2
theorem pull_held (μ : Store) : ∀ (ks : List Nat) (X : List (List Int)) (seen : List Nat), ks.length = X.length → (∀ a b k : Nat, ks[a]? = some k → ks[b]? = some k → a = b) → (∀ (a k : Nat) (c : List Int), ks[a]? = some k → X[a]? = some c → k ∉ seen ∧ μ[k]? = some (.lst (dI c))) → pullL 0 μ seen (ks.map D.ptr) = some (X.map dLn)
  | [], [], seen, _, _, _ => rfl
  | [], _ :: _, _, h, _, _ => by simp at h
  | _ :: _, [], _, h, _, _ => by simp at h
  | k :: ks, c :: X, seen, h, nd, hk => by
    obtain ⟨g1, g2⟩ := hk 0 k c rfl rfl
    have ih := pull_held μ ks X (k :: seen) (by simpa using h) (fun a b l ha hb => by
      have := nd (a + 1) (b + 1) l (by simpa using ha) (by simpa using hb)
      omega) fun a l d ha hd => by
        obtain ⟨e1, e2⟩ := hk (a + 1) l d (by simpa using ha) (by simpa using hd)
        refine ⟨fun z => ?_, e2⟩
        rcases List.mem_cons.mp z with rfl | z
        · have := nd 0 (a + 1) l rfl (by simpa using ha)
          omega
        · exact e1 z
    simp only [List.map_cons, pullL]
    rw [if_pos ⟨Nat.zero_le _, g1⟩, g2]
    simp only
    rw [if_pos (noPtrL_dI 0 c), ih]
    rfl
theorem exit_held {μ : Store} {o : Nat} {ks : List Nat} {X : List (List Int)} (h : Held μ o ks X) (hX : X ≠ []) : exitD 0 (.ptr o) μ = .ok (.new (X.map dLn)) [] := by
  have h1 := pull_held μ ks X [o] h.len h.nd fun a k c hk hc => by
    obtain ⟨e1, e2⟩ := h.at_ a k c hk hc
    exact ⟨by simpa using e1, e2⟩
  have h2 : noPtrL 0 (ks.map D.ptr) = false := by
    cases hks : ks with
    | nil => have := h.len; rw [hks] at this; simp at this; exact absurd this.symm (by simpa using hX)
    | cons k r => rfl
  unfold exitD
  rw [if_pos (by simp [lowOk]), if_neg (by simp)]
  simp only [h.out]
  rw [if_neg (by rw [h2]; simp), h1]
  rfl
end Law

namespace Law
open Pyf
open PySem (Str PyData sizeLine)
section
variable {m n : Nat}
theorem Held.get {μ : Store} {o : Nat} {ks : List Nat} {X : List (List Int)} (h : Held μ o ks X) {i : Nat} (hi : i < X.length) : ∃ k, ks[i]? = some k ∧ μ[k]? = some (.lst (dI (atL X i))) ∧ L2.atI (ks.map D.ptr) (i : Int) = some (.ptr k) := by
  have hk : i < ks.length := by rw [h.len]; exact hi
  have hX : X[i]? = some (atL X i) := by unfold atL; rw [List.getElem?_eq_getElem hi]; rfl
  refine ⟨ks[i], List.getElem?_eq_getElem hk, (h.at_ i ks[i] _ (List.getElem?_eq_getElem hk) hX).2, ?_⟩
  rw [ixl [] (by simpa using hk)]
  simp
theorem Held.app {μ ν : Store} {o : Nat} {ks : List Nat} {X : List (List Int)} (h : Held μ o ks X) : Held (μ ++ ν) o ks X := by
  refine ⟨h.len, ?_, h.nd, fun a k c hk hc => ?_⟩
  · rw [List.getElem?_append_left (List.getElem?_eq_some_iff.mp h.out).1]; exact h.out
  · obtain ⟨g1, g2⟩ := h.at_ a k c hk hc
    exact ⟨g1, by rw [List.getElem?_append_left (List.getElem?_eq_some_iff.mp g2).1]; exact g2⟩
theorem pbP {c d : List Int} {B k l : Nat} {p : Int × Int} {μ : Store} (hc : Ct m B c) (hd : Ct m B d) (m8 : m ≤ 8) (hB : B ≤ 3000) (hp : Cup p) (hk : μ[k]? = some (.lst (dI c))) (hl : μ[l]? = some (.lst (dI d))) (hkl : k ≠ l) : callD (denF f_pot_behind) [.ptr k, .ptr l, dP p] μ = .ok (.new (dI (pb p c d))) μ :=
  callP2 (p_pot_behind hc hd m8 hB hp) hk hl hkl rfl rfl rfl (noPtrL_dI 0 c) (noPtrL_dI 0 d) (by simp)
theorem deed_b0 {B o : Nat} {ks : List Nat} {X : List (List Int)} {a : Deed} {r0 r1 : Option D} {μ : Store} (h : Held μ o ks X) (hX : Pots m n B X) (m8 : m ≤ 8) (hB : B ≤ 3000) (ha : Ok n a) :
    exSs f_cups_row_b0 [r0, r1, some (.ptr o), some (.int (a.1 : Int)), some (.int (a.2.1 : Int)), some (dP a.2.2), none, none] μ =
      .ok (.nx [r0, r1, some (.ptr o), some (.int (a.1 : Int)), some (.int (a.2.1 : Int)), some (dP a.2.2), none, none]) ((μ ++ [Cell.lst (dI (pb a.2.2 (atL X a.1) (atL X a.2.1))), Cell.lst (dI (pb a.2.2 (atL X a.2.1) (atL X a.1)))]).set o (Cell.lst (((ks.set a.1 μ.length).set a.2.1 (μ.length + 1)).map D.ptr))) := by
  obtain ⟨h1, h2, h3, hp⟩ := ha
  have hl := hX.1
  have hkl := h.len
  have c1 := hX.ct _ (atL_mem (X := X) (i := a.1) (by omega))
  have c2 := hX.ct _ (atL_mem (X := X) (i := a.2.1) (by omega))
  obtain ⟨k1, g1, g2, g3⟩ := h.get (i := a.1) (by omega)
  obtain ⟨k2, g4, g5, g6⟩ := h.get (i := a.2.1) (by omega)
  have hne : k1 ≠ k2 := fun e => h3 (h.nd _ _ k1 g1 (by rw [g4, e]))
  have ho := h.out
  have hol := (List.getElem?_eq_some_iff.mp ho).1
  have l1 := h.lt g1
  have l2 := h.lt g4
  have e1 := pbP c1 c2 m8 hB hp g2 g5 hne
  have hμ1 : ∀ k, k < μ.length → (μ ++ [Cell.lst (dI (pb a.2.2 (atL X a.1) (atL X a.2.1)))])[k]? = μ[k]? := fun k hk => List.getElem?_append_left hk
  have hμ2 : ∀ k, k < μ.length → (μ ++ [Cell.lst (dI (pb a.2.2 (atL X a.1) (atL X a.2.1))), Cell.lst (dI (pb a.2.2 (atL X a.2.1) (atL X a.1)))])[k]? = μ[k]? := fun k hk => List.getElem?_append_left hk
  have e2 := pbP (μ := μ ++ [Cell.lst (dI (pb a.2.2 (atL X a.1) (atL X a.2.1)))]) c2 c1 m8 hB hp (by rw [hμ1 _ l2]; exact g5) (by rw [hμ1 _ l1]; exact g2) (fun z => hne z.symm)
  have f1 := frzL_dI (pb a.2.2 (atL X a.1) (atL X a.2.1))
  have f2 := frzL_dI (pb a.2.2 (atL X a.2.1) (atL X a.1))
  have o1 := hμ1 o hol
  have o2 := hμ2 o hol
  rw [ho] at o1 o2
  have j1 : L2.ixN (ks.map D.ptr).length (a.1 : Int) = some a.1 := ixN_nat (by simp; omega)
  have j2 : L2.ixN (ks.map D.ptr).length (a.2.1 : Int) = some a.2.1 := ixN_nat (by simp; omega)
  have j3 : ((ks.map D.ptr).set a.1 (.ptr μ.length)).set a.2.1 (.ptr (μ.length + 1)) = ((ks.set a.1 μ.length).set a.2.1 (μ.length + 1)).map D.ptr := by simp [List.map_set]
  rw [← j3]
  clear hX c1 c2 h hkl
  generalize dI (pb a.2.2 (atL X a.1) (atL X a.2.1)) = R1 at *
  generalize dI (pb a.2.2 (atL X a.2.1) (atL X a.1)) = R2 at *
  generalize dP a.2.2 = P at *
  generalize ks.map D.ptr = L0 at *
  have hso : ∀ (xs : List Cell) (y z : Cell), (xs.set o y).set o z = xs.set o z := fun xs y z => List.set_set ..
  have hgo : ∀ (y : Cell), ((μ ++ [Cell.lst R1, Cell.lst R2]).set o y)[o]? = some y := fun y => List.getElem?_set_self (by simp; omega)
  simp [f_cups_row_b0, -callD, ho, g3, g6, e1, f1, o1, e2, f2, o2, j1, hgo, j2, hso]
theorem deed_l0 {r0 r1 : Option D} {o : Nat} (m8 : m ≤ 8) : ∀ (acts : List Deed) (B : Nat) (X : List (List Int)) (ks : List Nat) (r3 r4 r5 : Option D) (μ : Store), Held μ o ks X → Pots m n B X → 8 * acts.length + B ≤ 3000 → (∀ a ∈ acts, Ok n a) →
    ∃ q3 q4 q5 μ' ks', forS (.tp [3, 4, 5]) (exSs f_cups_row_b0) [] (acts.map dD) [r0, r1, some (.ptr o), r3, r4, r5, none, none] μ = .ok (.nx [r0, r1, some (.ptr o), q3, q4, q5, none, none]) μ' ∧ Held μ' o ks' (rowX X acts)
  | [], B, X, ks, r3, r4, r5, μ, h, hX, hB, ha => ⟨r3, r4, r5, μ, ks, by simp [forS], h⟩
  | a :: acts, B, X, ks, r3, r4, r5, μ, h, hX, hB, ha => by
    simp only [List.length_cons] at hB
    have ok := ha a List.mem_cons_self
    obtain ⟨ok1, ok2, ok3, _⟩ := id ok
    have hl := hX.1
    have hs := h.step (i := a.1) (j := a.2.1) (by omega) (by omega) ok3 (pb a.2.2 (atL X a.1) (atL X a.2.1)) (pb a.2.2 (atL X a.2.1) (atL X a.1))
    obtain ⟨q3, q4, q5, μ', ks', ih, hh⟩ := deed_l0 m8 acts (8 + B) (stepX X a) _ (some (.int (a.1 : Int))) (some (.int (a.2.1 : Int))) (some (dP a.2.2)) _ hs (hX.step ok) (by omega) fun b hb => ha b (List.mem_cons_of_mem _ hb)
    refine ⟨q3, q4, q5, μ', ks', ?_, hh⟩
    have hb : bindT (.tp [3, 4, 5]) (dD a) [r0, r1, some (.ptr o), r3, r4, r5, none, none] = some [r0, r1, some (.ptr o), some (.int (a.1 : Int)), some (.int (a.2.1 : Int)), some (dP a.2.2), none, none] := by
      unfold dD
      simp [bindT, bindAll]
    have body := deed_b0 (r0 := r0) (r1 := r1) h hX m8 (by omega) ok
    rw [List.map_cons]
    simp only [forS, lvOk_nil, if_true]
    rw [hb]
    simp only [body]
    exact ih
theorem held_start (X : List (List Int)) : Held (X.map (fun c => Cell.lst (dI c)) ++ [.lst (ptsF 0 X.length)]) X.length (List.range' 0 X.length) X := by
  refine ⟨by simp, ?_, fun a b k ha hb => ?_, fun a k c hk hc => ?_⟩
  · rw [List.getElem?_append_right (by simp)]
    simp [ptsF]
  · have h1 := (List.getElem?_eq_some_iff.mp ha).2
    have h2 := (List.getElem?_eq_some_iff.mp hb).2
    simp at h1 h2
    omega
  · have ha := (List.getElem?_eq_some_iff.mp hc).1
    rw [List.getElem?_range' (by simpa using ha)] at hk
    simp at hk
    subst hk
    refine ⟨by omega, ?_⟩
    rw [List.getElem?_append_left (by simpa using ha), List.getElem?_map, hc]
    rfl
theorem r_cups_rowD {B : Nat} {X : List (List Int)} {acts : List Deed} (hX : Pots m n B X) (m1 : 1 ≤ m) (m8 : m ≤ 8) (n2 : 2 ≤ n) (n8 : n ≤ 8) (ha : ∀ a ∈ acts, Ok n a) (hl : acts.length ≤ 60) (hB : B ≤ 2500) :
    runF f_cups_row [.lst (X.map dL), .lst (acts.map dD)] [] = .ok (.new ((rowX X acts).map dLn)) [] := by
  have e1 : ∀ μ, callD (denF f_need_pots) [.lst (X.map dL)] μ = .ok .non μ := fun μ => call0 (r_need_pots hX m1 m8 n2 n8 (by omega)) (by simp [frzL, frzL_dL']) (by simp [noPtrL_dL']) rfl rfl
  have hXl : (X.map dL).length = n := by simp [hX.1]
  have c0 : (ev f_cups_row_c0).e [some (.lst (X.map dL)), some (.lst (acts.map dD)), none, none, none, none, none, none] [] = .ok (.new (acts.map fun _ => .bl true)) [] := by
    have := lcS_map (tg := .nm 7) (tst := evTs .nil) (elt := (ev (.call "is_deed" (denF f_is_deed) (.cons (.v 7) (.cons (.bi .len (.cons (.v 0) .nil)) .nil)) .nil [])).e) (ρ := [some (.lst (X.map dL)), some (.lst (acts.map dD)), none, none, none, none, none, none]) (μ := []) dD (fun a => [some (.lst (X.map dL)), some (.lst (acts.map dD)), none, none, none, none, none, some (dD a)]) (fun _ => .bl true) acts [] (fun a h => by
      have e : ∀ μ, callD (denF f_is_deed) [dD a, .int (n : Int)] μ = .ok (.bl true) μ := fun μ => call0 (r_is_deed (ha a h) n8) rfl rfl rfl rfl
      refine ⟨by simp [frz_dD], by simp, ?_⟩
      generalize X.map dL = L at *
      simp [-callD, hXl, e]) (by simp; omega)
    refine lc_of (ds := acts.map dD) (lv := []) (μ1 := []) (by simp) ?_
    simpa using this
  have c1 : (ev f_cups_row_c1).e [some (.lst (X.map dL)), some (.lst (acts.map dD)), none, none, none, none, none, none] [] = .ok (.new (X.map dLn)) [] := by
    have := lcS_map (tg := .nm 6) (tst := evTs .nil) (elt := (ev (.bi .list (.cons (.v 6) .nil))).e) (ρ := [some (.lst (X.map dL)), some (.lst (acts.map dD)), none, none, none, none, none, none]) (μ := []) dL (fun c => [some (.lst (X.map dL)), some (.lst (acts.map dD)), none, none, none, none, some (dL c), none]) dLn X [] (fun c h => by
      refine ⟨by simp [dL], by simp, ?_⟩
      simp [dL, dLn]) (by have := hX.1; simp; omega)
    refine lc_of (ds := X.map dL) (lv := []) (μ1 := []) (by simp) ?_
    simpa using this
  have hb : boolsOf (acts.map fun _ => D.bl true) = some (acts.map fun _ => true) := by
    clear c0 ha hl
    induction acts with
    | nil => rfl
    | cons x X ih => simp [boolsOf, ih]
  have hal : (acts.map fun _ => true).all id = true := by simp
  have hal2 : (acts.map dD).length = acts.length := by simp
  have al := allocL_dLn X []
  obtain ⟨q3, q4, q5, μ', ks', hl0, hh⟩ := deed_l0 (r0 := some (.lst (X.map dL))) (r1 := some (.lst (acts.map dD))) (o := X.length) m8 acts B X _ none none none _ (held_start X) hX (by omega) ha
  have hw : exS f_cups_row_l0 [some (.lst (X.map dL)), some (.lst (acts.map dD)), some (.ptr X.length), none, none, none, none, none] (X.map (fun c => Cell.lst (dI c)) ++ [.lst (ptsF 0 X.length)]) = _ := fr_of (ds := acts.map dD) (lv := []) (μ1 := X.map (fun c => Cell.lst (dI c)) ++ [.lst (ptsF 0 X.length)]) (by simp) hl0
  have hX' : rowX X acts ≠ [] := fun z => by
    have := (hX.row (acts := acts) ha).1
    rw [z] at this
    simp at this
    omega
  have ex := exit_held hh hX'
  have hle : ¬ (60 : Int) < (acts.length : Int) := by omega
  have hlen : (X.map fun c => Cell.lst (dI c)).length = X.length := by simp
  have fp := frzL_ptsF 0 X.length
  simp only [List.nil_append, List.length_nil] at al
  refine runF_of (ρ := [some (.lst (X.map dL)), some (.lst (acts.map dD)), none, none, none, none, none, none]) (μ1 := μ') (d := .ptr X.length) rfl rfl ?_ ex
  clear hl0 hh ex hX' ha hX
  generalize (acts.map fun _ => D.bl true) = T at *
  generalize (acts.map fun _ => true) = T' at *
  generalize X.map dLn = Ln at *
  generalize X.map dL = L at *
  generalize acts.map dD = A at *
  generalize ptsF 0 X.length = Pt at *
  generalize (X.map fun c => Cell.lst (dI c)) = Cs at *
  simp [f_cups_row, -callD, e1, c0, c1, hb, hal, hal2, hle, al, hlen, fp, hw]
theorem rowD {B : Nat} {X : List (List Int)} {acts : List Deed} {d e : D} (hd : frz d = .lst (X.map dL)) (he : frz e = .lst (acts.map dD)) (hX : Pots m n B X) (m1 : 1 ≤ m) (m8 : m ≤ 8) (n2 : 2 ≤ n) (n8 : n ≤ 8) (ha : ∀ a ∈ acts, Ok n a) (hl : acts.length ≤ 60) (hB : B ≤ 2500) (μ : Store) :
    callD (denF f_cups_row) [d, e] μ = .ok (.new ((rowX X acts).map dLn)) μ :=
  call0 (es := [.lst (X.map dL), .lst (acts.map dD)]) (r_cups_rowD hX m1 m8 n2 n8 ha hl hB) (by simp [frzL, hd, he]) (by simp [noPtrL_dL', noPtrL_dD]) rfl (noPtrL_dLn 0 _)
end
end Law

namespace Law
open Pyf
open PySem (Str PyData sizeLine)
theorem callV_none {f : Fn} {args ds : List D} {d : D} {μ : Store} (hg : getCs μ (ptrs (frzL args)) = none) (hl : args.length = f.ps.length) (hv : mapO (viewD 4 μ) (frzL args) = some ds) (hr : runF f ds [] = .ok d []) (hs : isSc d = true) : callD (denF f) args μ = .ok d μ := by
  have hV : callV (denF f) args μ = .ok d μ := by
    unfold callV
    rw [if_pos hl, hv]
    simp only [denF_run, hr, hs, if_true]
  unfold callD
  split
  · rw [hg]; exact hV
  · exact hV
theorem alikeN {d e x : D} {μ : Store} (hx : Lk 6 x) (ha : getCs μ (ptrs (frzL [d, e])) = none) (hd : viewD 4 μ (frz d) = some x) (he : viewD 4 μ (frz e) = some x) : callD (denF f__law_alike) [d, e] μ = .ok (.bl true) μ := by
  refine callV_none (ds := [x, x]) ha rfl ?_ (r__law_alike hx) rfl
  simp only [frzL, mapO, hd, he]
theorem view_pts {μ : Store} {n : Nat} : ∀ (R : List (List Int)) (k : Nat), (∀ (i : Nat) (c : List Int), R[i]? = some c → μ[k + i]? = some (.lst (dI c))) → mapO (viewD (n + 1) μ) (ptsF k R.length) = some (R.map dL)
  | [], k, _ => rfl
  | c :: R, k, h => by
    have h0 : viewD (n + 1) μ (.ptr k) = some (.lst (dI c)) := viewD_cell (h 0 c rfl) (noPtrL_dI 0 c)
    have ih := view_pts (n := n) R (k + 1) fun i d hd => by
      have := h (i + 1) d (by simpa using hd)
      rw [show k + 1 + i = k + (i + 1) by omega]
      exact this
    have e : ptsF k (c :: R).length = .ptr k :: ptsF (k + 1) R.length := by simp [ptsF, List.range'_succ]
    rw [e]
    simp only [mapO, h0, ih]
    rfl
theorem Lk_LL (n : Nat) {R : List (List Int)} (h : R.length ≤ 1000) (h2 : ∀ c ∈ R, c.length ≤ 1000) : Lk (n + 2) (.lst (R.map dL)) := .lst (by simpa using h) fun x hx => by
  obtain ⟨c, hc, rfl⟩ := List.mem_map.mp hx
  exact Lk_dI n (h2 c hc)
section
variable {m c : Nat}
theorem deeds_b0 {N : Nat} {x4 x5 x6 x9 x10 x11 : Option D} {X : List (List Int)} {acts : List Deed} {nn : Nat} (hX : Pots m c N X) (m8 : m ≤ 8) (c2 : 2 ≤ c) (c8 : c ≤ 8) (hN : 8 * acts.length + N ≤ 2900) (ha : ∀ a ∈ acts, Ok c a) (hn : nn ≤ 10 ^ 10) (hl : acts.length ≤ 100) {M Z : Int} {cs : List Int} {p cur st ct : Int} (h : BB nn cs p cur st ct) :
    ∃ a y9 y10 p' cur' st' ct', exSs f__law_row_right_b0 [some (.ptr 0), some (.int M), some (.int Z), some (.lst (X.map dL)), x4, x5, x6, some (.ptr 1), some (.ptr 2), x9, x10, x11] [CB cs p cur st ct, .lst ((rowX X acts).map dL), .lst (acts.map dD)] =
      .ok (.nx [some (.ptr 0), some (.int M), some (.int Z), some (.lst (X.map dL)), x4, x5, x6, some (.ptr 1), some (.ptr 2), y9, y10, x11]) [CB cs p' cur' st' ct', .lst ((rowX X (acts ++ [a])).map dL), .lst ((acts ++ [a]).map dD)] ∧ BB (nn + 10) cs p' cur' st' ct' ∧ Ok c a := by
  obtain ⟨v, p1, c1, s1, t1, e1, b1, v0, v1⟩ := drawS (r := [.lst ((rowX X acts).map dL), .lst (acts.map dD)]) (w := (c : Int)) (by omega) (by omega) (by omega) h
  obtain ⟨u, p2, c2', s2, t2, e2, b2, u0, u1⟩ := drawS (r := [.lst ((rowX X acts).map dL), .lst (acts.map dD)]) (w := (c : Int) - 1) (by omega) (by omega) (by omega) b1
  obtain ⟨q, p3, c3, s3, t3, e3, b3, hq⟩ := cupS (r := [.lst ((rowX X acts).map dL), .lst (acts.map dD)]) (most := 9) (by omega) (by omega) (by omega) b2
  obtain ⟨i, rfl⟩ : ∃ i : Nat, v = (i : Int) := ⟨v.toNat, by omega⟩
  obtain ⟨w, rfl⟩ : ∃ w : Nat, u = (w : Int) := ⟨u.toNat, by omega⟩
  obtain ⟨o1, o2⟩ := other_pot (n := c) (i := i) (v := w) (by omega) (by omega)
  refine ⟨(i, (i + 1 + w) % c, q), some (.int (i : Int)), some (.int (((i + 1 + w) % c : Nat) : Int)), p3, c3, s3, t3, ?_, b3.mono (by omega), by omega, o1, o2, hq⟩
  have hmod : ((i : Int) + 1 + (w : Int)) % (c : Int) = (((i + 1 + w) % c : Nat) : Int) := by
    rw [Int.natCast_emod]
    rfl
  have hlen : (acts.map dD).length = acts.length := by simp
  have hXl : (X.map dL).length = c := by simp [hX.1]
  have hap : acts.map dD ++ [.tup [.int (i : Int), .int (((i + 1 + w) % c : Nat) : Int), dP q]] = (acts ++ [(i, (i + 1 + w) % c, q)]).map dD := by
    rw [List.map_append]; rfl
  have hlast : L2.atI ((acts ++ [(i, (i + 1 + w) % c, q)]).map dD) (-1) = some (.tup [.int (i : Int), .int (((i + 1 + w) % c : Nat) : Int), dP q]) := by
    rw [← hap]
    exact atI_last _ _
  have hR := hX.row (acts := acts) ha
  have hRl := hR.1
  have hii : i < c := by omega
  generalize hj : (i + 1 + w) % c = j at *
  have k1 := hR.ct _ (atL_mem (X := rowX X acts) (i := i) (by omega))
  have k2 := hR.ct _ (atL_mem (X := rowX X acts) (i := j) (by omega))
  have e4 := fun μ => pouredC (e1 := .lst (dI (atL (rowX X acts) i))) (e2 := .lst (dI (atL (rowX X acts) j))) rfl rfl k1 k2 m8 hN hq μ
  have i1 := atI_dL (X := rowX X acts) (i := i) (by omega)
  have i2 := atI_dL (X := rowX X acts) (i := j) (by omega)
  have hrow : rowX X (acts ++ [(i, j, q)]) = ((rowX X acts).set i (pb q (atL (rowX X acts) i) (atL (rowX X acts) j))).set j (pb q (atL (rowX X acts) j) (atL (rowX X acts) i)) := by
    unfold rowX
    rw [List.foldl_append]
    rfl
  have f1 := frzL_dI (pb q (atL (rowX X acts) i) (atL (rowX X acts) j))
  have f2 := frzL_dI (pb q (atL (rowX X acts) j) (atL (rowX X acts) i))
  have s1' : ((rowX X acts).map dL).set i (.lst (dI (pb q (atL (rowX X acts) i) (atL (rowX X acts) j)))) = ((rowX X acts).set i (pb q (atL (rowX X acts) i) (atL (rowX X acts) j))).map dL := by rw [List.map_set]; rfl
  have s2' : (((rowX X acts).set i (pb q (atL (rowX X acts) i) (atL (rowX X acts) j))).map dL).set j (.lst (dI (pb q (atL (rowX X acts) j) (atL (rowX X acts) i)))) = (rowX X (acts ++ [(i, j, q)])).map dL := by rw [hrow]; simp only [List.map_set]; rfl
  have j1 : L2.ixN ((rowX X acts).map dL).length (i : Int) = some i := ixN_nat (by simp; omega)
  have j2 : L2.ixN (((rowX X acts).set i (pb q (atL (rowX X acts) i) (atL (rowX X acts) j))).map dL).length (j : Int) = some j := ixN_nat (by simp; omega)
  have hc0 : ¬ (c : Int) = 0 := by omega
  have hc1 : (0 : Int) < (c : Int) := by omega
  have hc2 : 0 < c := by omega
  have hsz : acts.length < 16777216 := by omega
  have hfd : frz (D.tup [.int (i : Int), .int (j : Int), dP q]) = .tup [.int (i : Int), .int (j : Int), dP q] := rfl
  clear h b1 b2 b3 hR hrow k1 k2
  generalize ((rowX X acts).set i (pb q (atL (rowX X acts) i) (atL (rowX X acts) j))).map dL = R1 at *
  generalize (rowX X (acts ++ [(i, j, q)])).map dL = R2 at *
  generalize (acts ++ [(i, j, q)]).map dD = A2 at *
  generalize dI (pb q (atL (rowX X acts) i) (atL (rowX X acts) j)) = P1 at *
  generalize dI (pb q (atL (rowX X acts) j) (atL (rowX X acts) i)) = P2 at *
  generalize dI (atL (rowX X acts) i) = Q1 at *
  generalize dI (atL (rowX X acts) j) = Q2 at *
  generalize (rowX X acts).map dL = R at *
  generalize X.map dL = L0 at *
  generalize acts.map dD = A at *
  simp only [CB, dP] at *
  generalize dI cs = C at *
  simp [f__law_row_right_b0, -callD, hXl, e1, e2, e3, hmod, hc0, hc1, hc2, hlen, hsz, hap, hlast, i1, i2, e4, f1, f2, j1, s1', j2, s2']
theorem deeds_l0 {N : Nat} {x4 x5 x6 x9 x10 x11 : Option D} {X : List (List Int)} {nn size : Nat} (hX : Pots m c N X) (m8 : m ≤ 8) (c2 : 2 ≤ c) (c8 : c ≤ 8) (hN : 8 * size + N ≤ 2900) (hs : size ≤ 60) (hn : nn ≤ 10 ^ 9) {M : Int} {cs : List Int} {p cur st ct : Int} (h : BB nn cs p cur st ct) :
    ∃ (acts : List Deed) (y4 y9 y10 : Option D) (p' cur' st' ct' : Int), exS f__law_row_right_l0 [some (.ptr 0), some (.int M), some (.int (size : Int)), some (.lst (X.map dL)), x4, x5, x6, some (.ptr 1), some (.ptr 2), x9, x10, x11] [CB cs p cur st ct, .lst (X.map dL), .lst []] =
      .ok (.nx [some (.ptr 0), some (.int M), some (.int (size : Int)), some (.lst (X.map dL)), y4, x5, x6, some (.ptr 1), some (.ptr 2), y9, y10, x11]) [CB cs p' cur' st' ct', .lst ((rowX X acts).map dL), .lst (acts.map dD)] ∧ BB (nn + 600) cs p' cur' st' ct' ∧ acts.length = size ∧ ∀ a ∈ acts, Ok c a := by
  obtain ⟨ρ2, μ2, w, acts, p', cur', st', ct', y4, y9, y10, rfl, rfl, hB, hl, hk⟩ := rloop (t := 4) (c := size) (e := .v 2) (b := f__law_row_right_b0)
    (fun i ρ μ' => ∃ (acts : List Deed) (p' cur' st' ct' : Int) (y4 y9 y10 : Option D), ρ = [some (.ptr 0), some (.int M), some (.int (size : Int)), some (.lst (X.map dL)), y4, x5, x6, some (.ptr 1), some (.ptr 2), y9, y10, x11] ∧ μ' = [CB cs p' cur' st' ct', .lst ((rowX X acts).map dL), .lst (acts.map dD)] ∧ BB (nn + 10 * i) cs p' cur' st' ct' ∧ acts.length = i ∧ ∀ a ∈ acts, Ok c a)
    (ρ := [some (.ptr 0), some (.int M), some (.int (size : Int)), some (.lst (X.map dL)), x4, x5, x6, some (.ptr 1), some (.ptr 2), x9, x10, x11]) (μ := [CB cs p cur st ct, .lst (X.map dL), .lst []])
    (rngE (by omega) (by simp)) ⟨[], p, cur, st, ct, x4, x9, x10, rfl, rfl, h, rfl, by simp⟩ fun i ρ μ' hi hI => by
      obtain ⟨acts, p', cur', st', ct', y4, y9, y10, rfl, rfl, hB, hl, hk⟩ := hI
      obtain ⟨a, z9, z10, p2, cur2, st2, ct2, e2, b2, ok⟩ := deeds_b0 (x4 := some (.int (i : Int))) (x5 := x5) (x6 := x6) (x9 := y9) (x10 := y10) (x11 := x11) (acts := acts) (M := M) (Z := (size : Int)) hX m8 c2 c8 (by omega) hk (show nn + 10 * i ≤ 10 ^ 10 by omega) (by omega) hB
      refine ⟨[some (.ptr 0), some (.int M), some (.int (size : Int)), some (.lst (X.map dL)), some (.int (i : Int)), x5, x6, some (.ptr 1), some (.ptr 2), y9, y10, x11], _, _, by simp, e2, acts ++ [a], p2, cur2, st2, ct2, _, _, _, rfl, rfl, b2.mono (by omega), by simp [hl], fun x hx => ?_⟩
      rcases List.mem_append.mp hx with hx | hx
      · exact hk x hx
      · rw [List.mem_singleton.mp hx]; exact ok
  exact ⟨acts, y4, y9, y10, p', cur', st', ct', w, hB.mono (by omega), hl, hk⟩
/-! each list is one of its own -/
/-- the told lists, the first i with their place put behind -/
structure Toldk (C : Cell) (R : List (List Int)) (i : Nat) (μ : Store) : Prop where
  len : μ.length = R.length + 4
  bag : μ[0]? = some C
  out : μ[R.length + 3]? = some (.lst (ptsF 3 R.length))
  at_ : ∀ (j : Nat) (c : List Int), R[j]? = some c → μ[3 + j]? = some (.lst (dI (if j < i then c ++ [(j : Int)] else c)))
theorem pts_at {k n i : Nat} (hi : i < n) : L2.atI (ptsF k n) (i : Int) = some (.ptr (k + i)) := by
  rw [ixl [] (by simpa [ptsF] using hi)]
  simp [ptsF]
theorem told_b1 {x0 x1 x2 x3 x6 x7 x8 x9 x10 x11 : Option D} {C : Cell} {R : List (List Int)} {i : Nat} {μ : Store} (h : Toldk C R i μ) (hi : i < R.length) (hR : ∀ c ∈ R, c.length ≤ 1000) :
    ∃ μ', exSs f__law_row_right_b1 [x0, x1, x2, x3, some (.int (i : Int)), some (.ptr (R.length + 3)), x6, x7, x8, x9, x10, x11] μ = .ok (.nx [x0, x1, x2, x3, some (.int (i : Int)), some (.ptr (R.length + 3)), x6, x7, x8, x9, x10, x11]) μ' ∧ Toldk C R (i + 1) μ' := by
  have hc : R[i]? = some (atL R i) := by unfold atL; rw [List.getElem?_eq_getElem hi]; rfl
  have h1 := h.at_ i _ hc
  rw [if_neg (by omega)] at h1
  have h2 := pts_at (k := 3) hi
  have ho := h.out
  have hcl : (atL R i).length ≤ 1000 := hR _ (atL_mem hi)
  have hlt : (dI (atL R i)).length < 16777216 := by simp [dI]; omega
  have hap : dI (atL R i) ++ [.int (i : Int)] = dI (atL R i ++ [(i : Int)]) := by simp [dI]
  refine ⟨μ.set (3 + i) (.lst (dI (atL R i ++ [(i : Int)]))), ?_, ?_⟩
  · rw [← hap]
    generalize dI (atL R i) = Q at *
    generalize ptsF 3 R.length = Pt at *
    simp [f__law_row_right_b1, ho, h2, h1, hlt]
  · refine ⟨by rw [List.length_set]; exact h.len, by rw [List.getElem?_set_ne (by omega)]; exact h.bag, by rw [List.getElem?_set_ne (by omega)]; exact h.out, fun j c hj => ?_⟩
    by_cases e : j = i
    · subst e
      rw [hc] at hj
      cases hj
      rw [List.getElem?_set_self (by have := h.len; omega), if_pos (by omega)]
    · rw [List.getElem?_set_ne (by omega), h.at_ j c hj]
      by_cases e2 : j < i
      · rw [if_pos e2, if_pos (by omega)]
      · rw [if_neg e2, if_neg (by omega)]
theorem told_l1 {x0 x1 x2 x3 x4 x6 x7 x8 x9 x10 x11 : Option D} {C : Cell} {R : List (List Int)} {μ : Store} (h : Toldk C R 0 μ) (hl : R.length ≤ 8) (hR : ∀ c ∈ R, c.length ≤ 1000) :
    ∃ y4 μ', exS f__law_row_right_l1 [x0, x1, x2, x3, x4, some (.ptr (R.length + 3)), x6, x7, x8, x9, x10, x11] μ = .ok (.nx [x0, x1, x2, x3, y4, some (.ptr (R.length + 3)), x6, x7, x8, x9, x10, x11]) μ' ∧ Toldk C R R.length μ' := by
  have ho := h.out
  have hpl : (ptsF 3 R.length).length = R.length := by simp [ptsF]
  obtain ⟨ρ2, μ2, w, y4, rfl, hT⟩ := rloop (t := 4) (c := R.length) (e := .bi .len (.cons (.v 5) .nil)) (b := f__law_row_right_b1)
    (fun i ρ μ' => ∃ y4, ρ = [x0, x1, x2, x3, y4, some (.ptr (R.length + 3)), x6, x7, x8, x9, x10, x11] ∧ Toldk C R i μ')
    (ρ := [x0, x1, x2, x3, x4, some (.ptr (R.length + 3)), x6, x7, x8, x9, x10, x11]) (μ := μ)
    (rngE (by omega) (by simp [ho, hpl])) ⟨x4, rfl, h⟩ fun i ρ μ' hi hI => by
      obtain ⟨y4, rfl, hT⟩ := hI
      obtain ⟨μ2, e, hT2⟩ := told_b1 (x0 := x0) (x1 := x1) (x2 := x2) (x3 := x3) (x6 := x6) (x7 := x7) (x8 := x8) (x9 := x9) (x10 := x10) (x11 := x11) hT hi hR
      exact ⟨_, _, μ2, by simp, e, _, rfl, hT2⟩
  exact ⟨y4, μ2, w, hT⟩
theorem told_c3 {x0 x1 x2 x3 x4 x6 x7 x8 x9 x10 : Option D} {C : Cell} {R : List (List Int)} {μ : Store} (h : Toldk C R R.length μ) (hl : R.length ≤ 8) :
    (ev f__law_row_right_c3).e [x0, x1, x2, x3, x4, some (.ptr (R.length + 3)), x6, x7, x8, x9, x10, none] μ = .ok (.new (R.map dLn)) μ ∧
    (ev f__law_row_right_c4).e [x0, x1, x2, x3, x4, some (.ptr (R.length + 3)), x6, x7, x8, x9, x10, none] μ = .ok (.new (dI ((List.range R.length).map fun j : Nat => (0 + (j : Int))))) μ := by
  have ho := h.out
  have hv : lvOk [(R.length + 3, ptsF 3 R.length)] μ := fun q hq => by
    rw [List.mem_singleton] at hq; subst hq; exact ho
  have hit : ptsF 3 R.length = (List.range R.length).map fun j => D.ptr (3 + j) := by unfold ptsF; rw [List.range'_eq_map_range, List.map_map]; rfl
  have cell : ∀ j, j < R.length → μ[3 + j]? = some (.lst (dI (atL R j) ++ [.int (j : Int)])) := fun j hj => by
    have hc : R[j]? = some (atL R j) := by unfold atL; rw [List.getElem?_eq_getElem hj]; rfl
    have := h.at_ j _ hc
    rw [if_pos hj] at this
    rw [this]
    simp [dI]
  have hmap : R.map dLn = (List.range R.length).map fun j => dLn (atL R j) := by
    apply List.ext_getElem
    · simp
    · intro i h1 h2
      have hi : i < R.length := by simpa using h1
      have : atL R i = R[i] := by unfold atL; rw [List.getElem?_eq_getElem hi]; rfl
      simp [this]
  constructor
  · have := lcS_mapV (lv := [(R.length + 3, ptsF 3 R.length)]) (tg := .nm 11) (tst := evTs .nil) (elt := (ev (.sl (.v 11) (.k .non) (.neg (.k (.int 1))) false true)).e) (ρ := [x0, x1, x2, x3, x4, some (.ptr (R.length + 3)), x6, x7, x8, x9, x10, none]) (μ := μ) hv (fun j : Nat => .ptr (3 + j)) (fun j => [x0, x1, x2, x3, x4, some (.ptr (R.length + 3)), x6, x7, x8, x9, x10, some (.ptr (3 + j))]) (fun j => dLn (atL R j)) (List.range R.length) [] (fun j hj => by
      rw [List.mem_range] at hj
      have h1 := cell j hj
      have h2 := cut_last (dI (atL R j)) (.int (j : Int))
      unfold dLn
      generalize dI (atL R j) = Q at *
      refine ⟨by simp, by simp, ?_⟩
      simp [h1, h2]) (by simp; omega)
    refine lc_of (ds := ptsF 3 R.length) (lv := [(R.length + 3, ptsF 3 R.length)]) (μ1 := μ) (by simp [ho]) ?_
    have e : ptsF 3 R.length = (List.range R.length).map fun j : Nat => D.ptr (3 + j) := hit
    rw [hmap]
    rw [← e] at this
    simpa using this
  · have := lcS_mapV (lv := [(R.length + 3, ptsF 3 R.length)]) (tg := .nm 11) (tst := evTs .nil) (elt := (ev (.ix (.v 11) (.neg (.k (.int 1))))).e) (ρ := [x0, x1, x2, x3, x4, some (.ptr (R.length + 3)), x6, x7, x8, x9, x10, none]) (μ := μ) hv (fun j : Nat => .ptr (3 + j)) (fun j => [x0, x1, x2, x3, x4, some (.ptr (R.length + 3)), x6, x7, x8, x9, x10, some (.ptr (3 + j))]) (fun j => .int (0 + (j : Int))) (List.range R.length) [] (fun j hj => by
      rw [List.mem_range] at hj
      have h1 := cell j hj
      have h2 := atI_last (dI (atL R j)) (.int (j : Int))
      generalize dI (atL R j) = Q at *
      refine ⟨by simp, by simp, ?_⟩
      simp [h1, h2]) (by simp; omega)
    refine lc_of (ds := ptsF 3 R.length) (lv := [(R.length + 3, ptsF 3 R.length)]) (μ1 := μ) (by simp [ho]) ?_
    have e : ptsF 3 R.length = (List.range R.length).map fun j : Nat => D.ptr (3 + j) := hit
    rw [← e] at this
    simpa [dI, Function.comp_def] using this
end
end Law

namespace Law
open Pyf
open PySem (Str PyData sizeLine)
theorem lists_lc {ex : E} {ρ : Slots} {μ : Store} {X : List (List Int)} (hl : X.length ≤ 100) (h11 : 11 < ρ.length) (hx : (ev ex).e ρ μ = .ok (.lst (X.map dL)) μ) : (ev (.lc (.bi .list (.cons (.v 11) .nil)) (.nm 11) (.seq ex) .nil)).e ρ μ = .ok (.new (X.map dLn)) μ := by
  have := lcS_map (tg := .nm 11) (tst := evTs .nil) (elt := (ev (.bi .list (.cons (.v 11) .nil))).e) (ρ := ρ) (μ := μ) dL (fun c => ρ.set 11 (some (dL c))) dLn X [] (fun c h => by
    refine ⟨by simp [dL, h11], by simp, ?_⟩
    simp [dL, dLn, h11]) (by simp; omega)
  refine lc_of (ds := X.map dL) (lv := []) (μ1 := μ) (by simp [hx]) ?_
  simpa using this
section
variable {m : Nat}
theorem row_p1 {nn size : Nat} (m1 : 1 ≤ m) (m8 : m ≤ 8) (hs : size ≤ 60) (hn : nn ≤ 10 ^ 7) {cs : List Int} {p cur st ct : Int} (h : BB nn cs p cur st ct) :
    ∃ (c : Nat) (X : List (List Int)) (acts : List Deed) (y4 y9 y10 : Option D) (cs' : List Int) (p' cur' st' ct' : Int), (∀ t, exSs (hdS 3 f__law_row_right.body t) [some (.ptr 0), some (.int (m : Int)), some (.int (size : Int)), none, none, none, none, none, none, none, none, none] [CB cs p cur st ct] =
      exSs t [some (.ptr 0), some (.int (m : Int)), some (.int (size : Int)), some (.lst (X.map dL)), y4, none, some (.lst (X.map dL)), some (.ptr 1), some (.ptr 2), y9, y10, none] [CB cs' p' cur' st' ct', .lst ((rowX X acts).map dL), .lst (acts.map dD)]) ∧ BB (nn + 1000) cs' p' cur' st' ct' ∧ 2 ≤ c ∧ c ≤ 8 ∧ Pots m c 833 X ∧ acts.length = size ∧ ∀ a ∈ acts, Ok c a := by
  obtain ⟨v1, p1, c1, s1, t1, e1, b1, _, _⟩ := drawS (r := []) (w := 7) (by omega) (by omega) (by omega) h
  obtain ⟨a, rfl⟩ : ∃ a : Nat, v1 = (a : Int) := ⟨v1.toNat, by omega⟩
  obtain ⟨c, hb⟩ : ∃ c : Nat, (2 : Int) + (a : Int) = (c : Int) := ⟨2 + a, by omega⟩
  obtain ⟨X, μ3, e3, j3, l3, hX, hct⟩ := lc_bagQ (fun x : List Int => dLn x) (fun x => Ct m 100 x) (elt := .call "_law_drawn" (denF f__law_drawn) (.cons (.v 0) (.cons (.v 1) (.cons (.k (.int 9)) .nil))) .nil []) (t := 4) (s := 17) (m := c)
    (ρ := [some (.ptr 0), some (.int (m : Int)), some (.int (size : Int)), none, none, none, none, none, none, none, none, none]) (n := nn + 1) (j := 0) (μ := [CB cs p1 c1 s1 t1]) (by omega) (by omega) (by omega) (by simp) ⟨cs, p1, c1, s1, t1, rfl, b1⟩ fun i n' μ hn' hj => by
      obtain ⟨x, μ2, e2, j2, l2, ct⟩ := drawnJ (m := m) (far := 9) (by omega) (by omega) (by omega) (by omega) (by omega) hj
      refine ⟨x, μ2, ?_, j2, l2, ct⟩
      have e2' : callD (denF f__law_drawn) [.ptr 0, .int (m : Int), .int 9] μ = .ok (dLn x) μ2 := e2
      simp [-callD, e2']
  obtain ⟨cs3, p3, c3, s3, t3, rfl, b3⟩ := j3.one (by simpa using l3)
  have hc : (ev f__law_row_right_c0).e [some (.ptr 0), some (.int (m : Int)), some (.int (size : Int)), none, none, none, none, none, none, none, none, none] [CB cs p cur st ct] = .ok (.new (X.map dLn)) [CB cs3 p3 c3 s3 t3] :=
    lc_of (ds := rangeL 0 1 c) (lv := []) (μ1 := [CB cs p1 c1 s1 t1]) (by simp [-callD, e1, hb, rangeD, small62_nat (i := (c : Int)) (by omega) (by omega)]) e3
  have k1 := lists_lc (ex := .v 3) (ρ := [some (.ptr 0), some (.int (m : Int)), some (.int (size : Int)), some (.lst (X.map dL)), none, none, none, none, none, none, none, none]) (μ := [CB cs3 p3 c3 s3 t3]) (X := X) (by omega) (by simp) (by simp)
  have k1' : (ev f__law_row_right_c1).e [some (.ptr 0), some (.int (m : Int)), some (.int (size : Int)), some (.lst (X.map dL)), none, none, none, none, none, none, none, none] [CB cs3 p3 c3 s3 t3] = _ := k1
  have k2' : (ev f__law_row_right_c2).e [some (.ptr 0), some (.int (m : Int)), some (.int (size : Int)), some (.lst (X.map dL)), none, none, none, none, none, none, none, none] [CB cs3 p3 c3 s3 t3] = _ := k1
  have hc8 : c ≤ 8 := by omega
  have hP : Pots m c 833 X := (Pots.start hX m8 hct).mono (by omega)
  have hf : frzL (X.map dLn) = X.map dL := frzL_dLn X
  obtain ⟨acts, y4, y9, y10, p4, c4, s4, t4, e4, b4, hl, ha⟩ := deeds_l0 (x4 := none) (x5 := none) (x6 := some (.lst (X.map dL))) (x9 := none) (x10 := none) (x11 := none) (M := (m : Int)) hP m8 (by omega) (by omega) (by omega) hs (by omega) b3
  refine ⟨c, X, acts, y4, y9, y10, cs3, p4, c4, s4, t4, fun t => ?_, b4.mono (by omega), by omega, by omega, hP, hl, ha⟩
  clear h b1 b3 b4 j3 e3 k1 hP ha hct
  generalize (rowX X acts).map dL = R at *
  generalize acts.map dD = A at *
  generalize X.map dLn = Ln at *
  generalize X.map dL = L at *
  simp [f__law_row_right, hdS, -callD, hc, hf, k1', k2', e4]
theorem row_p2 {c size : Nat} {X : List (List Int)} {acts : List Deed} {y4 y9 y10 : Option D} {C : Cell} (m1 : 1 ≤ m) (m8 : m ≤ 8) (hs : size ≤ 60) (c2 : 2 ≤ c) (c8 : c ≤ 8) (hX : Pots m c 833 X) (hl : acts.length = size) (ha : ∀ a ∈ acts, Ok c a) :
    ∃ μ', exSs (tlS 3 f__law_row_right.body) [some (.ptr 0), some (.int (m : Int)), some (.int (size : Int)), some (.lst (X.map dL)), y4, none, some (.lst (X.map dL)), some (.ptr 1), some (.ptr 2), y9, y10, none] [C, .lst ((rowX X acts).map dL), .lst (acts.map dD)] = .ok (.rt (.bl true)) μ' ∧ μ'.take 1 = [C] := by
  have hR := hX.row (acts := acts) ha
  have hRl := hR.1
  have hRc : ∀ c ∈ rowX X acts, c.length ≤ 1000 := fun x hx => by have := (hR.ct x hx).len; omega
  have e1 := fun μ => rowD (d := .lst (X.map dL)) (e := .lst (acts.map dD)) rfl rfl hX m1 m8 c2 c8 ha (by omega) (by omega) μ
  have al := allocL_dLn (rowX X acts) [C, .lst ((rowX X acts).map dL), .dead]
  have fp := frzL_ptsF 3 (rowX X acts).length
  have T0 : Toldk C (rowX X acts) 0 (C :: .dead :: .dead :: ((rowX X acts).map (fun c => Cell.lst (dI c)) ++ [.lst (ptsF 3 (rowX X acts).length)])) := by
    refine ⟨by simp, rfl, ?_, fun j c hj => ?_⟩
    · show ((rowX X acts).map (fun c => Cell.lst (dI c)) ++ [Cell.lst (ptsF 3 (rowX X acts).length)])[(rowX X acts).length]? = _
      rw [List.getElem?_append_right (by simp)]
      simp
    · rw [if_neg (by omega), Nat.add_comm]
      show ((rowX X acts).map (fun c => Cell.lst (dI c)) ++ [Cell.lst (ptsF 3 (rowX X acts).length)])[j]? = _
      have := (List.getElem?_eq_some_iff.mp hj).1
      rw [List.getElem?_append_left (by simpa using this), List.getElem?_map, hj]
      rfl
  have hv : mapO (viewD 3 (C :: .dead :: .dead :: ((rowX X acts).map (fun c => Cell.lst (dI c)) ++ [.lst (ptsF 3 (rowX X acts).length)]))) (ptsF 3 (rowX X acts).length) = some ((rowX X acts).map dL) := view_pts (n := 2) (rowX X acts) 3 fun i c hi => by
    have := T0.at_ i c hi
    rw [if_neg (by omega)] at this
    exact this
  have hne : noPtrL 0 (ptsF 3 (rowX X acts).length) = false := by
    rw [hRl]
    obtain ⟨k, rfl⟩ : ∃ k, c = k + 1 := ⟨c - 1, by omega⟩
    simp [ptsF, List.range'_succ]
  have e2 : callD (denF f__law_alike) [.ptr ((rowX X acts).length + 3), .lst ((rowX X acts).map dL)] (C :: .dead :: .dead :: ((rowX X acts).map (fun c => Cell.lst (dI c)) ++ [.lst (ptsF 3 (rowX X acts).length)])) = .ok (.bl true) (C :: .dead :: .dead :: ((rowX X acts).map (fun c => Cell.lst (dI c)) ++ [.lst (ptsF 3 (rowX X acts).length)])) := by
    refine alikeN (Lk_LL 4 (by omega) hRc) ?_ ?_ (viewD_plain _ (noPtrL_dL 0 _))
    · simp only [frzL, frz, ptrs, getCs]
      rw [T0.out]
      simp only
      rw [if_neg (by rw [hne]; simp)]
    · show viewD 4 _ (.ptr _) = _
      rw [viewD, if_neg (by simp)]
      simp only [T0.out, hv]
      rfl
  obtain ⟨z4, μ', e3, T1⟩ := told_l1 (x0 := some (.ptr 0)) (x1 := some (.int (m : Int))) (x2 := some (.int (size : Int))) (x3 := some (.lst (X.map dL))) (x4 := y4) (x6 := some (.lst (X.map dL))) (x7 := some (.lst ((rowX X acts).map dL))) (x8 := some (.lst (acts.map dD))) (x9 := y9) (x10 := y10) (x11 := none) T0 (by omega) hRc
  obtain ⟨e4, e5⟩ := told_c3 (x0 := some (.ptr 0)) (x1 := some (.int (m : Int))) (x2 := some (.int (size : Int))) (x3 := some (.lst (X.map dL))) (x4 := z4) (x6 := some (.lst (X.map dL))) (x7 := some (.lst ((rowX X acts).map dL))) (x8 := some (.lst (acts.map dD))) (x9 := y9) (x10 := y10) T1 (by omega)
  have e6 : rglD (.int 0) (.int (c : Int)) μ' = .ok (.new (dI ((List.range c).map fun j : Nat => (0 + (j : Int))))) μ' := by
    show (if (small62 0 && small62 (c : Int) && decide (((c : Int) - 0).toNat ≤ 16777216)) = true then Res.ok (D.new (rangeL 0 1 ((c : Int) - 0).toNat)) μ' else Res.bad) = _
    rw [if_pos (by simp [small62_nat (i := (c : Int)) (by omega) (by omega), small62_nat (i := (0 : Int)) (by omega) (by omega)]; omega)]
    rw [show ((c : Int) - 0).toNat = c by omega, rangeL_eq]
    simp [dI, Function.comp_def]
  have q1 := fun μ => eq_LL μ X
  have q2 := fun μ => eq_LLn μ (rowX X acts)
  have q3 := fun μ => eq_dInn μ ((List.range c).map fun j : Nat => (0 + (j : Int)))
  have hRl2 : ((rowX X acts).map dL).length = c := by simp [hRl]
  refine ⟨μ', ?_, ?_⟩
  rotate_left
  · have h1 := T1.len
    have h2 := T1.bag
    match μ', h1, h2 with
    | x :: r, _, h2 => simp at h2; subst h2; rfl
  have hCl : ((rowX X acts).map (fun c => Cell.lst (dI c))).length = c := by simp [hRl]
  have h3 : c + 1 + 1 + 1 = c + 3 := rfl
  have nd : frzL (acts.map dD) = acts.map dD := frzL_dD acts
  rw [hRl] at *
  clear hR T0 T1 hv hne ha hX hRc
  simp only [List.length_cons, List.length_nil] at al
  generalize (List.range c).map (fun j : Nat => (0 + (j : Int))) = Rg at *
  generalize (rowX X acts).map (fun c => Cell.lst (dI c)) = Cs at *
  generalize (rowX X acts).map dLn = Rn at *
  generalize (rowX X acts).map dL = R at *
  generalize acts.map dD = A at *
  generalize X.map dL = L at *
  generalize ptsF 3 c = Pt at *
  generalize dI Rg = Rd at *
  simp [f__law_row_right, tlS, -callD, e1, al, fp, hCl, h3, e2, q1, e3, e4, q2, hRl2, e5, e6, q3]
end
end Law

namespace Law
open Pyf
open PySem (Str PyData sizeLine)
/-- a list in a cell, alike a list -/
theorem p_alike {xs : List Int} (hl : xs.length ≤ 1000) : runF f__law_alike [.ptr 0, .lst (dI xs)] [.lst (dI xs)] = .ok (.bl true) [.lst (dI xs)] := by
  have q1 := fun μ => eq_bl μ true
  have q0 := fun μ => eq_bl μ false
  have hlen : (dI xs).length = xs.length := by simp [dI]
  have hc : ∃ bs, (ev f__law_alike_c0).e [some (.ptr 0), some (.lst (dI xs)), none] [.lst (dI xs)] = .ok (.new bs) [.lst (dI xs)] ∧ boolsOf bs = some ((List.range xs.length).map fun _ => true) := by
    refine ⟨_, ?_, boolsOf_map (fun _ : Nat => true) (List.range xs.length)⟩
    have := lcS_map (tg := .nm 2) (tst := evTs .nil) (elt := (ev (.call "_law_alike" (denF f__law_aliker5) (.cons (.ix (.v 0) (.v 2)) (.cons (.ix (.v 1) (.v 2)) .nil)) .nil [])).e) (ρ := [some (.ptr 0), some (.lst (dI xs)), none]) (μ := [.lst (dI xs)]) (fun t : Nat => .int (0 + (t : Int))) (fun t => [some (.ptr 0), some (.lst (dI xs)), some (.int (0 + (t : Int)))]) (fun t => .bl true) (List.range xs.length) [] (fun t ht => by
      refine ⟨by simp, by simp, ?_⟩
      have ht := List.mem_range.mp ht
      have e0 : (0 : Int) + (t : Int) = (t : Int) := by omega
      have a1 := dI_at ht
      have s1 : ∀ μ, callD (denF f__law_aliker5) [.int (xs[t]?.getD 0), .int (xs[t]?.getD 0)] μ = .ok (.bl true) μ := fun μ => call0 (r__law_aliker5 (.int 5 _)) rfl rfl rfl rfl
      rw [e0]
      generalize xs[t]?.getD 0 = x at *
      generalize dI xs = X at *
      simp [-callD, a1, s1]) (by simp; omega)
    refine lc_of (ds := rangeL 0 1 xs.length) (lv := []) (μ1 := [.lst (dI xs)]) (by simp [hlen, rangeD, small62_nat (i := (xs.length : Int)) (by omega) (by omega)]) ?_
    rw [rangeL_eq]
    refine Eq.trans this ?_
    rw [List.nil_append]
  obtain ⟨bs, h1, h2⟩ := hc
  have nn := fun k => noPtrL_dI k xs
  generalize dI xs = X at *
  unfold runF
  simp [f__law_alike, hasTy, mapO, q1, q0, h1, h2, nn]
theorem alikeP {xs : List Int} {k : Nat} {μ : Store} (hl : xs.length ≤ 1000) (hk : μ[k]? = some (.lst (dI xs))) : callD (denF f__law_alike) [.ptr k, .lst (dI xs)] μ = .ok (.bl true) μ :=
  callPx (p_alike hl) hk rfl (by simp [frzL]) (by simp) (noPtrL_dI 0 xs) rfl
theorem pb_self {c : List Int} {m B : Nat} {p : Int × Int} (hc : Ct m B c) (hp : Cup p) : pb p c c = c := by
  unfold pb
  obtain ⟨k1, k2, _, _⟩ := hp
  have e : mixU p.2 p.1 (c.map (c.sum * ·)) (c.map (c.sum * ·)) = c.map (((p.2 + p.1) * c.sum) * ·) := by
    unfold mixU
    rw [List.zip_map', List.map_map]
    refine List.map_congr_left fun x _ => ?_
    show p.2 * (c.sum * x) + p.1 * (c.sum * x) = _
    rw [Int.add_mul, Int.add_mul, Int.mul_assoc, Int.mul_assoc]
  rw [e, plain_scale (Int.mul_pos (by omega) hc.pos), plain_one2 hc.4]
theorem rowJ {nn m size : Nat} {μ : Store} {j : Nat} (m1 : 1 ≤ m) (m8 : m ≤ 8) (hs : size ≤ 60) (hn : nn ≤ 10 ^ 7) (h : BJ nn j μ) :
    ∃ μ', callD (denF f__law_row_right) [.ptr j, .int (m : Int), .int (size : Int)] μ = .ok (.bl true) μ' ∧ BJ (nn + 1000) j μ' ∧ μ'.length = μ.length := by
  obtain ⟨d, μ', h1, h2, h3, rfl⟩ := callB' (f := f__law_row_right) (n' := nn + 1000) (xs := [.int (m : Int), .int (size : Int)]) (P := fun d => d = .bl true) rfl rfl rfl h fun cs p cur st ct hb => by
    obtain ⟨c, X, acts, y4, y9, y10, cs', p', cur', st', ct', w1, b1, c2, c8, hX, hl, ha⟩ := row_p1 m1 m8 hs hn hb
    obtain ⟨μ', w2, w3⟩ := row_p2 (y4 := y4) (y9 := y9) (y10 := y10) (C := CB cs' p' cur' st' ct') m1 m8 hs c2 c8 hX hl ha
    refine ⟨.bl true, cs', p', cur', st', ct', ?_, b1, rfl, rfl⟩
    refine runF_of (ρ := [some (.ptr 0), some (.int (m : Int)), some (.int (size : Int)), none, none, none, none, none, none, none, none, none]) (μ1 := μ') (d := .bl true) rfl rfl (cut_body w1 w2) ?_
    have nn1 := noPtrL_CB 1 cs' p' cur' st' ct'
    unfold exitD
    rw [if_pos (by show lowOk 1 μ' = true; unfold lowOk; rw [w3]; simpa [CB] using nn1)]
    show (if noPtr 1 (D.bl true) = true then _ else _) = _
    rw [if_pos (show noPtr 1 (D.bl true) = true from rfl)]
    show Res.ok (D.bl true) (μ'.take 1) = _
    rw [w3]
  exact ⟨μ', h1, h2, h3⟩
theorem r_equal_right : runF f__law_equal_right [] [] = .ok (.bl true) [] := by
  have c12 : Cup (1, 2) := cupk (by decide)
  have c11 : Cup (1, 1) := cupk (by decide)
  have t34 : Ct 2 10 [3, 4] := ⟨rfl, of_decide_eq_true (by decide), by decide, by decide⟩
  have t10 : Ct 2 10 [1, 0] := ⟨rfl, of_decide_eq_true (by decide), by decide, by decide⟩
  have t01 : Ct 2 10 [0, 1] := ⟨rfl, of_decide_eq_true (by decide), by decide, by decide⟩
  have e1 : ∀ μ, callD (denF f_to_and_fro) [.lst [.int 3, .int 4], .lst [.int 3, .int 4], .tup [.int 1, .int 2]] μ = .ok (.tup [.new [.int 3, .int 4], .new [.int 3, .int 4]]) μ := fun μ => by
    have := froC (p := (1, 2)) (e1 := .lst [.int 3, .int 4]) (e2 := .lst [.int 3, .int 4]) rfl rfl t34 t34 (by omega) (by omega) (by omega) c12 μ
    rw [pb_self t34 c12] at this
    exact this
  have e2 : ∀ μ, callD (denF f_to_and_fro) [.new [.int 1, .int 0], .new [.int 0, .int 1], .tup [.int 1, .int 1]] μ = .ok (.tup [.new [.int 1, .int 1], .new [.int 1, .int 1]]) μ := fun μ => by
    have := froC (p := (1, 1)) (e1 := .new [.int 1, .int 0]) (e2 := .new [.int 0, .int 1]) rfl rfl t10 t01 (by omega) (by omega) (by omega) c11 μ
    have k1 : pb (1, 1) [1, 0] [0, 1] = [1, 1] := by decide +kernel
    have k2 : pb (1, 1) [0, 1] [1, 0] = [1, 1] := by decide +kernel
    rw [k1, k2] at this
    exact this
  have lk : Lk 6 (.lst [.lst [.int 3, .int 4], .lst [.int 3, .int 4], .tup [.lst [.int 3, .int 4, .int 1], .lst [.int 3, .int 4, .int 2]]]) := .lst (by simp) fun x hx => by
    simp only [List.mem_cons, List.not_mem_nil, or_false] at hx
    rcases hx with rfl | rfl | rfl
    · exact Lk_dI 4 (xs := [3, 4]) (by simp)
    · exact Lk_dI 4 (xs := [3, 4]) (by simp)
    · refine .tup (by simp) fun y hy => ?_
      simp only [List.mem_cons, List.not_mem_nil, or_false] at hy
      rcases hy with rfl | rfl
      · exact Lk_dI 3 (xs := [3, 4, 1]) (by simp)
      · exact Lk_dI 3 (xs := [3, 4, 2]) (by simp)
  have e3 : callD (denF f__law_alike) [.new [.lst [.int 3, .int 4], .lst [.int 3, .int 4], .tup [.ptr 0, .ptr 1]], .new [.new [.int 3, .int 4], .new [.int 3, .int 4], .tup [.new [.int 3, .int 4, .int 1], .new [.int 3, .int 4, .int 2]]]] [.lst [.int 3, .int 4, .int 1], .lst [.int 3, .int 4, .int 2]] = .ok (.bl true) [.lst [.int 3, .int 4, .int 1], .lst [.int 3, .int 4, .int 2]] := alikeV lk rfl rfl rfl
  have q : ∀ μ : Store, eqD (μ ++ [.lst [.int 1, .int 1]]) (.ptr μ.length) (.new [.int 1, .int 1]) = some true := fun μ => by
    rw [eqD_ptrL (xs := [.int 1, .int 1]) (by simp)]
    exact eq_dIln _ [1, 1]
  have q2 := q [.lst [.int 3, .int 4, .int 1], .lst [.int 3, .int 4, .int 2], .lst [.int 1, .int 1, .int 1]]
  simp only [List.cons_append, List.nil_append, List.length_cons, List.length_nil] at q2
  unfold runF
  simp [f__law_equal_right, -callD, e1, e2, e3, q2]
end Law

namespace Law
open Pyf
open PySem (Str PyData sizeLine)
theorem law_p1 {S : D} {x2 x3 x4 x5 x6 x7 x8 x9 x10 : Option D} {n j : Nat} {μ : Store} (hn : n ≤ 10 ^ 6) (h : BJ n j μ) :
    ∃ (m : Nat) (xs ys : List Int) (p : Int × Int) (y7 : Option D) (μ' : Store), (∀ t, exSs (hdS 3 f_law_b0 t) [some S, some (.ptr j), x2, x3, x4, x5, x6, x7, x8, x9, x10] μ = exSs t [some S, some (.ptr j), x2, x3, x4, some (dP p), some (.int (m : Int)), y7, some (.lst (dI xs)), some (.lst (dI ys)), x10] μ') ∧ BJ (n + 60) j μ' ∧ 1 ≤ m ∧ m ≤ 8 ∧ Ct m 100 xs ∧ Ct m 100 ys ∧ Cup p := by
  have b30 : powOk 10 30 = true := by decide +kernel
  obtain ⟨v3, μ3, e3, j3, l3, _, _⟩ := drawJ (w := 8) (by omega) (by omega) (by omega) h
  obtain ⟨a, rfl⟩ : ∃ a : Nat, v3 = (a : Int) := ⟨v3.toNat, by omega⟩
  obtain ⟨v4, μ4, e4, j4, l4, _, _⟩ := drawJ (w := 2) (by omega) (by omega) (by omega) j3
  obtain ⟨w4, hw4, hw4'⟩ := ix2 μ4 9 1000000000000000000000000000000 v4 (by omega) (by omega)
  obtain ⟨xs, μ5, e5, j5, l5, ct⟩ := drawnJ (m := 1 + a) (far := w4) (by omega) (by omega) (by omega) (by omega) (by omega) j4
  obtain ⟨zs, μ6, e6, j6, l6, ct2⟩ := drawnJ (m := 1 + a) (far := w4) (by omega) (by omega) (by omega) (by omega) (by omega) j5
  obtain ⟨v8, μ8, e8, j8, l8, _, _⟩ := drawJ (w := 2) (by omega) (by omega) (by omega) j6
  obtain ⟨w8, hw8, hw8'⟩ := ix2 μ8 5 100 v8 (by omega) (by omega)
  obtain ⟨p, μ9, e9, j9, l9, hp⟩ := cupJ (most := w8) (by omega) (by omega) (by omega) j8
  have hk : ((1 + a : Nat) : Int) = 1 + (a : Int) := by omega
  rw [hk] at e5 e6
  have n1 := frzL_dI xs
  have n2 := frzL_dI zs
  simp only [ixD_new] at hw4 hw8
  have jj := j9.mono (n' := n + 60) (by omega)
  clear h j3 j4 j5 j6 j8 j9
  refine ⟨1 + a, xs, zs, p, some (.int w4), μ9, fun t => ?_, jj, by omega, by omega, ct, ct2, hp⟩
  rw [hk]
  generalize dI xs = X at *
  generalize dI zs = Z at *
  simp only [dP] at *
  simp [f_law_b0, hdS, -callD, e3, e4, b30, hw4, e5, e6, n1, n2, e8, hw8, e9]
theorem law_p2 {S : D} {x3 x4 x7 x10 : Option D} {n j m t : Nat} {μ : Store} {xs ys : List Int} {p : Int × Int} (hn : n ≤ 10 ^ 6) (h : BJ n j μ) (m1 : 1 ≤ m) (m8 : m ≤ 8) (ct : Ct m 100 xs) (ct2 : Ct m 100 ys) (hp : Cup p) :
    ∃ y3 y4 y10 μ', exSs (tlS 3 f_law_b0) [some S, some (.ptr j), some (.int (t : Int)), x3, x4, some (dP p), some (.int (m : Int)), x7, some (.lst (dI xs)), some (.lst (dI ys)), x10] μ =
      .ok (.nx [some S, some (.ptr j), some (.int (t : Int)), y3, y4, some (dP p), some (.int (m : Int)), x7, some (.lst (dI xs)), some (.lst (dI ys)), y10]) μ' ∧ BJ (n + 1010) j μ' := by
  have a1 := pb_ct ct ct2 m8 hp
  have a2 := pb_ct ct2 ct m8 hp
  have lA : (pb p xs ys).length ≤ 1000 := by have := a1.len; omega
  have lB : (pb p ys xs).length ≤ 1000 := by have := a2.len; omega
  have lx : xs.length ≤ 1000 := by have := ct.len; omega
  have e1 := fun μ => pouredC (e1 := .lst (dI xs)) (e2 := .lst (dI ys)) rfl rfl ct ct2 m8 (by omega) hp μ
  have e2 := fun μ => froC (e1 := .lst (dI xs)) (e2 := .lst (dI ys)) rfl rfl ct ct2 m1 m8 (by omega) hp μ
  have e3 := fun μ => froC (e1 := .lst (dI xs)) (e2 := .lst (dI xs)) rfl rfl ct ct m1 m8 (by omega) hp μ
  rw [pb_self ct hp] at e3
  have e4 : callD (denF f__law_alike) [.tup [.ptr μ.length, .ptr (μ.length + 1)], .tup [.lst (dI (pb p xs ys)), .lst (dI (pb p ys xs))]] (μ ++ [.lst (dI (pb p xs ys)), .lst (dI (pb p ys xs))]) = .ok (.bl true) (μ ++ [.lst (dI (pb p xs ys)), .lst (dI (pb p ys xs))]) := by
    have lk : Lk 6 (.tup [.lst (dI (pb p xs ys)), .lst (dI (pb p ys xs))]) := .tup (by simp) fun x hx => by
      simp only [List.mem_cons, List.not_mem_nil, or_false] at hx
      rcases hx with rfl | rfl
      · exact Lk_dI 4 lA
      · exact Lk_dI 4 lB
    refine alikeV lk rfl ?_ ?_
    · refine viewD_tup rfl ?_
      simp only [frzL, frz, mapO]
      rw [viewD_cell (xs := dI (pb p xs ys)) (by simp) (noPtrL_dI 0 _), viewD_cell (xs := dI (pb p ys xs)) (by simp) (noPtrL_dI 0 _)]
    · exact viewD_plain _ (by simp [frz, frzL, noPtr, noPtrL])
  have e5 : callD (denF f__law_alike) [.ptr (μ.length + 1), .lst (dI (pb p ys xs))] (μ ++ [.lst (dI (pb p xs ys) ++ [.int 1]), .lst (dI (pb p ys xs))]) = .ok (.bl true) (μ ++ [.lst (dI (pb p xs ys) ++ [.int 1]), .lst (dI (pb p ys xs))]) := alikeP lB (by simp)
  have lk2 : Lk 6 (.lst [.tup [.lst (dI (pb p xs ys)), .lst (dI (pb p ys xs))], .lst (dI xs)]) := .lst (by simp) fun x hx => by
    simp only [List.mem_cons, List.not_mem_nil, or_false] at hx
    rcases hx with rfl | rfl
    · refine .tup (by simp) fun x hx => ?_
      simp only [List.mem_cons, List.not_mem_nil, or_false] at hx
      rcases hx with rfl | rfl
      · exact Lk_dI 3 lA
      · exact Lk_dI 3 lB
    · exact Lk_dI 4 lx
  have q1 : ∀ μ, eqD μ (.new [.lst (dI xs), .lst (dI ys)]) (.lst [.lst (dI xs), .lst (dI ys)]) = some true := fun μ => eq_LL μ [xs, ys]
  have f1 := frzL_dI (pb p xs ys)
  have f2 := frzL_dI (pb p ys xs)
  have f3 := frzL_dI xs
  have f4 := frzL_dI ys
  have al1 := fun μ => allocL_dI (pb p xs ys) μ
  have al2 := fun μ => allocL_dI (pb p ys xs) μ
  have hlA : (dI (pb p xs ys)).length < 16777216 := by simp [dI]; omega
  have e6 : ∀ μ, callD (denF f__law_alike) [.new [.tup [.new (dI (pb p xs ys)), .new (dI (pb p ys xs))], .new (dI xs)], .new [.tup [.lst (dI (pb p xs ys)), .lst (dI (pb p ys xs))], .lst (dI xs)]] μ = .ok (.bl true) μ := fun μ => alikeC lk2 (by simp [frz, frzL]) (by simp [frz, frzL]) μ
  have e7 : ∀ μ, callD (denF f_carried) [dP p] μ = .ok (dP (p.1, p.1 + p.2)) μ := fun μ => call0 (r_carried hp) rfl rfl rfl rfl
  obtain ⟨k1, k2, k3, k4⟩ := id hp
  have e8 : ∀ μ, callD (denF f__law_simple) [.int p.1, .int (p.1 + p.2)] μ = .ok (dP (p.1, p.1 + p.2)) μ := fun μ => by
    have := simpleC (t := p.1) (b := p.1 + p.2) (by omega) (big_log (n := 10) (by omega) (by omega) (by omega)) μ
    have e4 : red p.1 (p.1 + p.2) = (p.1, p.1 + p.2) := by
      have : Int.gcd p.1 (p.1 + p.2) = 1 := by rw [Int.gcd_self_add_right]; exact k4
      unfold red
      rw [this]
      simp
    rw [e4] at this
    exact this
  have e9 : ∀ μ, callD (denF f__law_alike) [dP (p.1, p.1 + p.2), dP (p.1, p.1 + p.2)] μ = .ok (.bl true) μ := fun μ => alikeC (Lk_dP 5 (p.1, p.1 + p.2)) rfl rfl μ
  have hj0 : BJ n j (μ ++ [.lst (dI (pb p xs ys) ++ [.int 1]), .lst (dI (pb p ys xs))]) := h.app
  obtain ⟨v1, μ1, d1, j1, l1, _, _⟩ := drawJ (w := 6) (by omega) (by omega) (by omega) hj0
  obtain ⟨a, rfl⟩ : ∃ a : Nat, v1 = (a : Int) := ⟨v1.toNat, by omega⟩
  clear a1 a2 lA lB lx ct ct2 h lk2
  by_cases ht : t = 0
  · subst ht
    obtain ⟨μ2, d2, j2, l2⟩ := rowJ (size := 60) m1 m8 (by omega) (by omega) j1
    refine ⟨some (.tup [.ptr μ.length, .ptr (μ.length + 1)]), some (.tup [.lst (dI (pb p xs ys)), .lst (dI (pb p ys xs))]), some (.lst [.lst (dI xs), .lst (dI ys)]), μ2, ?_, j2.mono (by omega)⟩
    · clear j1 j2 hj0 l1 l2
      generalize dI (pb p xs ys) = A at *
      generalize dI (pb p ys xs) = B at *
      generalize dI xs = X at *
      generalize dI ys = Y at *
      simp only [dP] at *
      have d2' : callD (denF f__law_row_right) [.ptr j, .int (m : Int), .int 60] μ1 = .ok (.bl true) μ2 := d2
      simp [f_law_b0, tlS, -callD, f3, f4, f1, f2, e1, e2, al1, al2, e4, q1, hlA, e5, e3, e6, d1, d2', e7, e8, e9]
  · have ht' : ¬ (t : Int) = 0 := by omega
    obtain ⟨μ2, d2, j2, l2⟩ := rowJ (size := a) m1 m8 (by omega) (by omega) j1
    refine ⟨some (.tup [.ptr μ.length, .ptr (μ.length + 1)]), some (.tup [.lst (dI (pb p xs ys)), .lst (dI (pb p ys xs))]), some (.lst [.lst (dI xs), .lst (dI ys)]), μ2, ?_, j2.mono (by omega)⟩
    · clear j1 j2 hj0 l1 l2
      generalize dI (pb p xs ys) = A at *
      generalize dI (pb p ys xs) = B at *
      generalize dI xs = X at *
      generalize dI ys = Y at *
      simp only [dP] at *
      simp [f_law_b0, tlS, -callD, ht, ht', f3, f4, f1, f2, e1, e2, al1, al2, e4, q1, hlA, e5, e3, e6, d1, d2, e7, e8, e9]
theorem law_l0 {S : D} {j : Nat} {μ : Store} (h : BJ 0 j μ) : ∃ y2 y3 y4 y5 y6 y7 y8 y9 y10 μ', exS f_law_l0 [some S, some (.ptr j), none, none, none, none, none, none, none, none, none] μ = .ok (.nx [some S, some (.ptr j), y2, y3, y4, y5, y6, y7, y8, y9, y10]) μ' ∧ BJ 8000 j μ' := by
  obtain ⟨ρ2, μ1, e1, y2, y3, y4, y5, y6, y7, y8, y9, y10, rfl, j1⟩ := rloop (t := 2) (c := 6) (e := .k (.int 6)) (b := f_law_b0) (fun i ρ μ' => ∃ y2 y3 y4 y5 y6 y7 y8 y9 y10, ρ = [some S, some (.ptr j), y2, y3, y4, y5, y6, y7, y8, y9, y10] ∧ BJ (1100 * i) j μ')
    (ρ := [some S, some (.ptr j), none, none, none, none, none, none, none, none, none]) (μ := μ) (rngE (by omega) (by simp)) ⟨none, none, none, none, none, none, none, none, none, rfl, h⟩ fun i ρ μ' hi hI => by
    obtain ⟨y2, y3, y4, y5, y6, y7, y8, y9, y10, rfl, q⟩ := hI
    obtain ⟨m, xs, ys, p, z7, μ2, w1, j2, m1, m8, ct, ct2, hp⟩ := law_p1 (S := S) (x2 := some (.int (i : Int))) (x3 := y3) (x4 := y4) (x5 := y5) (x6 := y6) (x7 := y7) (x8 := y8) (x9 := y9) (x10 := y10) (by omega) q
    obtain ⟨z3, z4, z10, μ3, w2, j3⟩ := law_p2 (S := S) (x3 := y3) (x4 := y4) (x7 := z7) (x10 := y10) (t := i) (by omega) j2 m1 m8 ct ct2 hp
    exact ⟨[some S, some (.ptr j), some (.int (i : Int)), y3, y4, y5, y6, y7, y8, y9, y10], _, μ3, by simp, cut_body w1 w2, _, _, _, _, _, _, _, _, _, rfl, j3.mono (by omega)⟩
  exact ⟨y2, y3, y4, y5, y6, y7, y8, y9, y10, μ1, e1, j1.mono (by omega)⟩
end Law

namespace Law
open Pyf
open PySem (Str PyData sizeLine)
theorem says : Says (denF f_law) 63 := fun ns hl _ => by
  obtain ⟨cs, st, h1, h2⟩ := bagC hl []
  have hj : BJ 0 0 [CB cs 0 0 st 0] := ⟨cs, 0, 0, st, 0, rfl, h2⟩
  obtain ⟨y2, y3, y4, y5, y6, y7, y8, y9, y10, μ1, e1, j1⟩ := law_l0 (S := .scr ns) hj
  have c14 : Cup (1, 4) := cupk (by decide)
  have c11 : Cup (1, 1) := cupk (by decide)
  have t10 : Ct 2 10 [1, 0] := ⟨rfl, of_decide_eq_true (by decide), by decide, by decide⟩
  have t01 : Ct 2 10 [0, 1] := ⟨rfl, of_decide_eq_true (by decide), by decide, by decide⟩
  have k1 : ∀ μ, callD (denF f_to_and_fro) [.new [.int 1, .int 0], .new [.int 0, .int 1], .tup [.int 1, .int 4]] μ = .ok (.tup [.new [.int 4, .int 1], .new [.int 1, .int 4]]) μ := fun μ => by
    have := froC (p := (1, 4)) (e1 := .new [.int 1, .int 0]) (e2 := .new [.int 0, .int 1]) rfl rfl t10 t01 (by omega) (by omega) (by omega) c14 μ
    have k1 : pb (1, 4) [1, 0] [0, 1] = [4, 1] := by decide +kernel
    have k2 : pb (1, 4) [0, 1] [1, 0] = [1, 4] := by decide +kernel
    rw [k1, k2] at this
    exact this
  have k2 : ∀ μ, callD (denF f_to_and_fro) [.new [.int 1, .int 0], .new [.int 0, .int 1], .tup [.int 1, .int 1]] μ = .ok (.tup [.new [.int 1, .int 1], .new [.int 1, .int 1]]) μ := fun μ => by
    have := froC (p := (1, 1)) (e1 := .new [.int 1, .int 0]) (e2 := .new [.int 0, .int 1]) rfl rfl t10 t01 (by omega) (by omega) (by omega) c11 μ
    have k1 : pb (1, 1) [1, 0] [0, 1] = [1, 1] := by decide +kernel
    have k2 : pb (1, 1) [0, 1] [1, 0] = [1, 1] := by decide +kernel
    rw [k1, k2] at this
    exact this
  have k3 : ∀ μ, callD (denF f_carried) [.tup [.int 1, .int 4]] μ = .ok (.tup [.int 1, .int 5]) μ := fun μ => call0 (r_carried c14) rfl rfl rfl rfl
  have k4 : ∀ μ, callD (denF f_carried) [.tup [.int 1, .int 1]] μ = .ok (.tup [.int 1, .int 2]) μ := fun μ => call0 (r_carried c11) rfl rfl rfl rfl
  have hP : Pots 2 2 29 [[1, 0], [0, 1]] := Pots.start (B := 10) rfl (by omega) fun c hc => by
    simp only [List.mem_cons, List.not_mem_nil, or_false] at hc
    rcases hc with rfl | rfl
    · exact t10
    · exact t01
  have k5 : ∀ μ, callD (denF f_cups_row) [.new [.new [.int 1, .int 0], .new [.int 0, .int 1]], .new []] μ = .ok (.new [.new [.int 1, .int 0], .new [.int 0, .int 1]]) μ := fun μ =>
    rowD (acts := []) (d := .new [.new [.int 1, .int 0], .new [.int 0, .int 1]]) (e := .new []) rfl rfl hP (by omega) (by omega) (by omega) (by omega) (by simp) (by simp) (by omega) μ
  have k6 : ∀ μ, callD (denF f__law_equal_right) [] μ = .ok (.bl true) μ := fun μ => call0 r_equal_right rfl rfl rfl rfl
  have lk : Lk 6 (.lst [.tup [.lst [.int 4, .int 1], .lst [.int 1, .int 4]], .tup [.int 1, .int 5], .tup [.int 1, .int 2], .tup [.lst [.int 1, .int 1], .lst [.int 1, .int 1]], .lst [.lst [.int 1, .int 0], .lst [.int 0, .int 1]]]) := .lst (by simp) fun x hx => by
    simp only [List.mem_cons, List.not_mem_nil, or_false] at hx
    rcases hx with rfl | rfl | rfl | rfl | rfl
    · refine .tup (by simp) fun y hy => ?_
      simp only [List.mem_cons, List.not_mem_nil, or_false] at hy
      rcases hy with rfl | rfl
      · exact Lk_dI 3 (xs := [4, 1]) (by simp)
      · exact Lk_dI 3 (xs := [1, 4]) (by simp)
    · exact Lk_dP 4 (1, 5)
    · exact Lk_dP 4 (1, 2)
    · refine .tup (by simp) fun y hy => ?_
      simp only [List.mem_cons, List.not_mem_nil, or_false] at hy
      rcases hy with rfl | rfl
      · exact Lk_dI 3 (xs := [1, 1]) (by simp)
      · exact Lk_dI 3 (xs := [1, 1]) (by simp)
    · exact Lk_LL 3 (R := [[1, 0], [0, 1]]) (by simp) (by simp)
  have k7 : ∀ μ : Store, callD (denF f__law_alike) [.ptr (μ.length + 4), .lst [.tup [.lst [.int 4, .int 1], .lst [.int 1, .int 4]], .tup [.int 1, .int 5], .tup [.int 1, .int 2], .tup [.lst [.int 1, .int 1], .lst [.int 1, .int 1]], .lst [.lst [.int 1, .int 0], .lst [.int 0, .int 1]]]]
      (μ ++ [.lst [.int 4, .int 1], .lst [.int 1, .int 4], .lst [.int 1, .int 1], .lst [.int 1, .int 1], .lst [.tup [.ptr μ.length, .ptr (μ.length + 1)], .tup [.int 1, .int 5], .tup [.int 1, .int 2], .tup [.ptr (μ.length + 2), .ptr (μ.length + 3)], .ptr (μ.length + 5)], .lst [.lst [.int 1, .int 0], .lst [.int 0, .int 1]]]) =
      .ok (.bl true) (μ ++ [.lst [.int 4, .int 1], .lst [.int 1, .int 4], .lst [.int 1, .int 1], .lst [.int 1, .int 1], .lst [.tup [.ptr μ.length, .ptr (μ.length + 1)], .tup [.int 1, .int 5], .tup [.int 1, .int 2], .tup [.ptr (μ.length + 2), .ptr (μ.length + 3)], .ptr (μ.length + 5)], .lst [.lst [.int 1, .int 0], .lst [.int 0, .int 1]]]) := fun μ => by
    refine alikeN lk ?_ ?_ (viewD_plain _ rfl)
    · simp [frzL, frz, ptrs, getCs]
    · simp [frz, viewD]
  have nf := frzL_dI cs
  simp only [CB] at e1
  generalize dI cs = C at *
  show runF f_law [.scr ns] [] = _
  unfold runF
  simp [f_law, -callD, h1, nf, e1, k1, k2, k3, k4, k5, k6, k7]
end Law

namespace Law
open PySem PySem.Spec PyProof.Rows L2 Pyf
open PySem (Str)
def top (i : Nat) : Stmt := PySem.Challenge.pw_topups_k48_cups_to_and_fro.main.body.getD i (.Pass ⟨0, 0, 0, 0⟩)
abbrev s__law_bag : Stmt := top 30
abbrev s__law_stirred : Stmt := top 31
abbrev s__law_draw : Stmt := top 32
abbrev s__law_common : Stmt := top 34
abbrev s__law_reduced : Stmt := top 38
abbrev s__law_drawn : Stmt := top 39
abbrev s__law_simple : Stmt := top 35
abbrev s__law_cup : Stmt := top 41
abbrev s__law_poured : Stmt := top 42
abbrev s_is_integer : Stmt := top 8
abbrev s_are_parts : Stmt := top 12
abbrev s_common_divisor : Stmt := top 9
abbrev s_divisor_of : Stmt := top 10
abbrev s_is_content : Stmt := top 13
abbrev s_need_content : Stmt := top 14
abbrev s_need_two_pots : Stmt := top 22
abbrev s_is_cup : Stmt := top 20
abbrev s_need_cup : Stmt := top 21
abbrev s_without_divisor : Stmt := top 15
abbrev s_pot_behind : Stmt := top 23
abbrev s_to_and_fro : Stmt := top 24
abbrev s__law_alike : Stmt := top 33
abbrev s_need_pots : Stmt := top 25
abbrev s_is_deed : Stmt := top 26
abbrev s_cups_row : Stmt := top 27
abbrev s__law_row_right : Stmt := top 43
abbrev s_simplest : Stmt := top 11
abbrev s_carried : Stmt := top 28
abbrev s__law_equal_right : Stmt := top 44
abbrev s_law : Stmt := top 45
theorem sc__law_bag : FnScope f__law_bag.N f__law_bag.ps (defScope s__law_bag) := ⟨rfl, rfl, rfl, by decide +kernel, rfl, by decide +kernel, by decide +kernel⟩
theorem ck__law_bag : chkSs ⟨f__law_bag.N, defScope s__law_bag, fun _ => true⟩ (List.range f__law_bag.N.length) f__law_bag.body (defBody s__law_bag) = true := by decide +kernel
theorem sc__law_stirred : FnScope f__law_stirred.N f__law_stirred.ps (defScope s__law_stirred) := ⟨rfl, rfl, rfl, by decide +kernel, rfl, by decide +kernel, by decide +kernel⟩
theorem ck__law_stirred : chkSs ⟨f__law_stirred.N, defScope s__law_stirred, fun _ => true⟩ (List.range f__law_stirred.N.length) f__law_stirred.body (defBody s__law_stirred) = true := by decide +kernel
theorem sc__law_draw : FnScope f__law_draw.N f__law_draw.ps (defScope s__law_draw) := ⟨rfl, rfl, rfl, by decide +kernel, rfl, by decide +kernel, by decide +kernel⟩
theorem ck__law_draw : chkSs ⟨f__law_draw.N, defScope s__law_draw, fun _ => true⟩ (List.range f__law_draw.N.length) f__law_draw.body (defBody s__law_draw) = true := by decide +kernel
theorem sc__law_common : FnScope f__law_common.N f__law_common.ps (defScope s__law_common) := ⟨rfl, rfl, rfl, by decide +kernel, rfl, by decide +kernel, by decide +kernel⟩
theorem ck__law_common : chkSs ⟨f__law_common.N, defScope s__law_common, fun _ => true⟩ (List.range f__law_common.N.length) f__law_common.body (defBody s__law_common) = true := by decide +kernel
theorem sc__law_reduced : FnScope f__law_reduced.N f__law_reduced.ps (defScope s__law_reduced) := ⟨rfl, rfl, rfl, by decide +kernel, rfl, by decide +kernel, by decide +kernel⟩
theorem ck__law_reduced : chkSs ⟨f__law_reduced.N, defScope s__law_reduced, fun _ => true⟩ (List.range f__law_reduced.N.length) f__law_reduced.body (defBody s__law_reduced) = true := by decide +kernel
theorem sc__law_drawn : FnScope f__law_drawn.N f__law_drawn.ps (defScope s__law_drawn) := ⟨rfl, rfl, rfl, by decide +kernel, rfl, by decide +kernel, by decide +kernel⟩
theorem ck__law_drawn : chkSs ⟨f__law_drawn.N, defScope s__law_drawn, fun _ => true⟩ (List.range f__law_drawn.N.length) f__law_drawn.body (defBody s__law_drawn) = true := by decide +kernel
theorem sc__law_simple : FnScope f__law_simple.N f__law_simple.ps (defScope s__law_simple) := ⟨rfl, rfl, rfl, by decide +kernel, rfl, by decide +kernel, by decide +kernel⟩
theorem ck__law_simple : chkSs ⟨f__law_simple.N, defScope s__law_simple, fun _ => true⟩ (List.range f__law_simple.N.length) f__law_simple.body (defBody s__law_simple) = true := by decide +kernel
theorem sc__law_cup : FnScope f__law_cup.N f__law_cup.ps (defScope s__law_cup) := ⟨rfl, rfl, rfl, by decide +kernel, rfl, by decide +kernel, by decide +kernel⟩
theorem ck__law_cup : chkSs ⟨f__law_cup.N, defScope s__law_cup, fun _ => true⟩ (List.range f__law_cup.N.length) f__law_cup.body (defBody s__law_cup) = true := by decide +kernel
theorem sc__law_poured : FnScope f__law_poured.N f__law_poured.ps (defScope s__law_poured) := ⟨rfl, rfl, rfl, by decide +kernel, rfl, by decide +kernel, by decide +kernel⟩
theorem ck__law_poured : chkSs ⟨f__law_poured.N, defScope s__law_poured, fun _ => true⟩ (List.range f__law_poured.N.length) f__law_poured.body (defBody s__law_poured) = true := by decide +kernel
theorem sc_is_integer : FnScope f_is_integer.N f_is_integer.ps (defScope s_is_integer) := ⟨rfl, rfl, rfl, by decide +kernel, rfl, by decide +kernel, by decide +kernel⟩
theorem ck_is_integer : chkSs ⟨f_is_integer.N, defScope s_is_integer, fun _ => true⟩ (List.range f_is_integer.N.length) f_is_integer.body (defBody s_is_integer) = true := by decide +kernel
theorem sc_are_parts : FnScope f_are_parts.N f_are_parts.ps (defScope s_are_parts) := ⟨rfl, rfl, rfl, by decide +kernel, rfl, by decide +kernel, by decide +kernel⟩
theorem ck_are_parts : chkSs ⟨f_are_parts.N, defScope s_are_parts, fun _ => true⟩ (List.range f_are_parts.N.length) f_are_parts.body (defBody s_are_parts) = true := by decide +kernel
theorem sc_common_divisor : FnScope f_common_divisor.N f_common_divisor.ps (defScope s_common_divisor) := ⟨rfl, rfl, rfl, by decide +kernel, rfl, by decide +kernel, by decide +kernel⟩
theorem ck_common_divisor : chkSs ⟨f_common_divisor.N, defScope s_common_divisor, fun _ => true⟩ (List.range f_common_divisor.N.length) f_common_divisor.body (defBody s_common_divisor) = true := by decide +kernel
theorem sc_divisor_of : FnScope f_divisor_of.N f_divisor_of.ps (defScope s_divisor_of) := ⟨rfl, rfl, rfl, by decide +kernel, rfl, by decide +kernel, by decide +kernel⟩
theorem ck_divisor_of : chkSs ⟨f_divisor_of.N, defScope s_divisor_of, fun _ => true⟩ (List.range f_divisor_of.N.length) f_divisor_of.body (defBody s_divisor_of) = true := by decide +kernel
theorem sc_is_content : FnScope f_is_content.N f_is_content.ps (defScope s_is_content) := ⟨rfl, rfl, rfl, by decide +kernel, rfl, by decide +kernel, by decide +kernel⟩
theorem ck_is_content : chkSs ⟨f_is_content.N, defScope s_is_content, fun _ => true⟩ (List.range f_is_content.N.length) f_is_content.body (defBody s_is_content) = true := by decide +kernel
theorem sc_need_content : FnScope f_need_content.N f_need_content.ps (defScope s_need_content) := ⟨rfl, rfl, rfl, by decide +kernel, rfl, by decide +kernel, by decide +kernel⟩
theorem ck_need_content : chkSs ⟨f_need_content.N, defScope s_need_content, fun _ => true⟩ (List.range f_need_content.N.length) f_need_content.body (defBody s_need_content) = true := by decide +kernel
theorem sc_need_two_pots : FnScope f_need_two_pots.N f_need_two_pots.ps (defScope s_need_two_pots) := ⟨rfl, rfl, rfl, by decide +kernel, rfl, by decide +kernel, by decide +kernel⟩
theorem ck_need_two_pots : chkSs ⟨f_need_two_pots.N, defScope s_need_two_pots, fun _ => true⟩ (List.range f_need_two_pots.N.length) f_need_two_pots.body (defBody s_need_two_pots) = true := by decide +kernel
theorem sc_is_cup : FnScope f_is_cup.N f_is_cup.ps (defScope s_is_cup) := ⟨rfl, rfl, rfl, by decide +kernel, rfl, by decide +kernel, by decide +kernel⟩
theorem ck_is_cup : chkSs ⟨f_is_cup.N, defScope s_is_cup, fun _ => true⟩ (List.range f_is_cup.N.length) f_is_cup.body (defBody s_is_cup) = true := by decide +kernel
theorem sc_need_cup : FnScope f_need_cup.N f_need_cup.ps (defScope s_need_cup) := ⟨rfl, rfl, rfl, by decide +kernel, rfl, by decide +kernel, by decide +kernel⟩
theorem ck_need_cup : chkSs ⟨f_need_cup.N, defScope s_need_cup, fun _ => true⟩ (List.range f_need_cup.N.length) f_need_cup.body (defBody s_need_cup) = true := by decide +kernel
theorem sc_without_divisor : FnScope f_without_divisor.N f_without_divisor.ps (defScope s_without_divisor) := ⟨rfl, rfl, rfl, by decide +kernel, rfl, by decide +kernel, by decide +kernel⟩
theorem ck_without_divisor : chkSs ⟨f_without_divisor.N, defScope s_without_divisor, fun _ => true⟩ (List.range f_without_divisor.N.length) f_without_divisor.body (defBody s_without_divisor) = true := by decide +kernel
theorem sc_pot_behind : FnScope f_pot_behind.N f_pot_behind.ps (defScope s_pot_behind) := ⟨rfl, rfl, rfl, by decide +kernel, rfl, by decide +kernel, by decide +kernel⟩
theorem ck_pot_behind : chkSs ⟨f_pot_behind.N, defScope s_pot_behind, fun _ => true⟩ (List.range f_pot_behind.N.length) f_pot_behind.body (defBody s_pot_behind) = true := by decide +kernel
theorem sc_to_and_fro : FnScope f_to_and_fro.N f_to_and_fro.ps (defScope s_to_and_fro) := ⟨rfl, rfl, rfl, by decide +kernel, rfl, by decide +kernel, by decide +kernel⟩
theorem ck_to_and_fro : chkSs ⟨f_to_and_fro.N, defScope s_to_and_fro, fun _ => true⟩ (List.range f_to_and_fro.N.length) f_to_and_fro.body (defBody s_to_and_fro) = true := by decide +kernel
theorem sc__law_aliker0 : FnScope f__law_aliker0.N f__law_aliker0.ps (defScope s__law_alike) := ⟨rfl, rfl, rfl, by decide +kernel, rfl, by decide +kernel, by decide +kernel⟩
theorem ck__law_aliker0 : chkSs ⟨f__law_aliker0.N, defScope s__law_alike, fun _ => true⟩ (List.range f__law_aliker0.N.length) f__law_aliker0.body (defBody s__law_alike) = true := by decide +kernel
theorem sc__law_aliker1 : FnScope f__law_aliker1.N f__law_aliker1.ps (defScope s__law_alike) := ⟨rfl, rfl, rfl, by decide +kernel, rfl, by decide +kernel, by decide +kernel⟩
theorem ck__law_aliker1 : chkSs ⟨f__law_aliker1.N, defScope s__law_alike, fun _ => true⟩ (List.range f__law_aliker1.N.length) f__law_aliker1.body (defBody s__law_alike) = true := by decide +kernel
theorem sc__law_aliker2 : FnScope f__law_aliker2.N f__law_aliker2.ps (defScope s__law_alike) := ⟨rfl, rfl, rfl, by decide +kernel, rfl, by decide +kernel, by decide +kernel⟩
theorem ck__law_aliker2 : chkSs ⟨f__law_aliker2.N, defScope s__law_alike, fun _ => true⟩ (List.range f__law_aliker2.N.length) f__law_aliker2.body (defBody s__law_alike) = true := by decide +kernel
theorem sc__law_aliker3 : FnScope f__law_aliker3.N f__law_aliker3.ps (defScope s__law_alike) := ⟨rfl, rfl, rfl, by decide +kernel, rfl, by decide +kernel, by decide +kernel⟩
theorem ck__law_aliker3 : chkSs ⟨f__law_aliker3.N, defScope s__law_alike, fun _ => true⟩ (List.range f__law_aliker3.N.length) f__law_aliker3.body (defBody s__law_alike) = true := by decide +kernel
theorem sc__law_aliker4 : FnScope f__law_aliker4.N f__law_aliker4.ps (defScope s__law_alike) := ⟨rfl, rfl, rfl, by decide +kernel, rfl, by decide +kernel, by decide +kernel⟩
theorem ck__law_aliker4 : chkSs ⟨f__law_aliker4.N, defScope s__law_alike, fun _ => true⟩ (List.range f__law_aliker4.N.length) f__law_aliker4.body (defBody s__law_alike) = true := by decide +kernel
theorem sc__law_aliker5 : FnScope f__law_aliker5.N f__law_aliker5.ps (defScope s__law_alike) := ⟨rfl, rfl, rfl, by decide +kernel, rfl, by decide +kernel, by decide +kernel⟩
theorem ck__law_aliker5 : chkSs ⟨f__law_aliker5.N, defScope s__law_alike, fun _ => true⟩ (List.range f__law_aliker5.N.length) f__law_aliker5.body (defBody s__law_alike) = true := by decide +kernel
theorem sc__law_alike : FnScope f__law_alike.N f__law_alike.ps (defScope s__law_alike) := ⟨rfl, rfl, rfl, by decide +kernel, rfl, by decide +kernel, by decide +kernel⟩
theorem ck__law_alike : chkSs ⟨f__law_alike.N, defScope s__law_alike, fun _ => true⟩ (List.range f__law_alike.N.length) f__law_alike.body (defBody s__law_alike) = true := by decide +kernel
theorem sc_need_pots : FnScope f_need_pots.N f_need_pots.ps (defScope s_need_pots) := ⟨rfl, rfl, rfl, by decide +kernel, rfl, by decide +kernel, by decide +kernel⟩
theorem ck_need_pots : chkSs ⟨f_need_pots.N, defScope s_need_pots, fun _ => true⟩ (List.range f_need_pots.N.length) f_need_pots.body (defBody s_need_pots) = true := by decide +kernel
theorem sc_is_deed : FnScope f_is_deed.N f_is_deed.ps (defScope s_is_deed) := ⟨rfl, rfl, rfl, by decide +kernel, rfl, by decide +kernel, by decide +kernel⟩
theorem ck_is_deed : chkSs ⟨f_is_deed.N, defScope s_is_deed, fun _ => true⟩ (List.range f_is_deed.N.length) f_is_deed.body (defBody s_is_deed) = true := by decide +kernel
theorem sc_cups_row : FnScope f_cups_row.N f_cups_row.ps (defScope s_cups_row) := ⟨rfl, rfl, rfl, by decide +kernel, rfl, by decide +kernel, by decide +kernel⟩
theorem ck_cups_row : chkSs ⟨f_cups_row.N, defScope s_cups_row, fun _ => true⟩ (List.range f_cups_row.N.length) f_cups_row.body (defBody s_cups_row) = true := by decide +kernel
theorem sc__law_row_right : FnScope f__law_row_right.N f__law_row_right.ps (defScope s__law_row_right) := ⟨rfl, rfl, rfl, by decide +kernel, rfl, by decide +kernel, by decide +kernel⟩
theorem ck__law_row_right : chkSs ⟨f__law_row_right.N, defScope s__law_row_right, fun _ => true⟩ (List.range f__law_row_right.N.length) f__law_row_right.body (defBody s__law_row_right) = true := by decide +kernel
theorem sc_simplest : FnScope f_simplest.N f_simplest.ps (defScope s_simplest) := ⟨rfl, rfl, rfl, by decide +kernel, rfl, by decide +kernel, by decide +kernel⟩
theorem ck_simplest : chkSs ⟨f_simplest.N, defScope s_simplest, fun _ => true⟩ (List.range f_simplest.N.length) f_simplest.body (defBody s_simplest) = true := by decide +kernel
theorem sc_carried : FnScope f_carried.N f_carried.ps (defScope s_carried) := ⟨rfl, rfl, rfl, by decide +kernel, rfl, by decide +kernel, by decide +kernel⟩
theorem ck_carried : chkSs ⟨f_carried.N, defScope s_carried, fun _ => true⟩ (List.range f_carried.N.length) f_carried.body (defBody s_carried) = true := by decide +kernel
theorem sc__law_equal_right : FnScope f__law_equal_right.N f__law_equal_right.ps (defScope s__law_equal_right) := ⟨rfl, rfl, rfl, by decide +kernel, rfl, by decide +kernel, by decide +kernel⟩
theorem ck__law_equal_right : chkSs ⟨f__law_equal_right.N, defScope s__law_equal_right, fun _ => true⟩ (List.range f__law_equal_right.N.length) f__law_equal_right.body (defBody s__law_equal_right) = true := by decide +kernel
theorem sc_law : FnScope f_law.N f_law.ps (defScope s_law) := ⟨rfl, rfl, rfl, by decide +kernel, rfl, by decide +kernel, by decide +kernel⟩
theorem ck_law : chkSs ⟨f_law.N, defScope s_law, fun _ => true⟩ (List.range f_law.N.length) f_law.body (defBody s_law) = true := by decide +kernel
structure Env (K : PySem.W.Frag) (mg : Str → Option Value) : Prop where
  b_abs : mg "abs" = none
  b_all : mg "all" = none
  b_bool : mg "bool" = none
  b_int : mg "int" = none
  b_isinstance : mg "isinstance" = none
  b_len : mg "len" = none
  b_list : mg "list" = none
  b_range : mg "range" = none
  b_str : mg "str" = none
  b_sum : mg "sum" = none
  b_tuple : mg "tuple" = none
  b_zip : mg "zip" = none
  g_MOST_CUP : ∃ u, mg "MOST_CUP" = some u ∧ RelV (.int 100) u
  g_MOST_DEEDS : ∃ u, mg "MOST_DEEDS" = some u ∧ RelV (.int 60) u
  g_MOST_LIQUIDS : ∃ u, mg "MOST_LIQUIDS" = some u ∧ RelV (.int 8) u
  g_MOST_POTS : ∃ u, mg "MOST_POTS" = some u ∧ RelV (.int 8) u
  d__law_bag : ∃ f fd, mg "_law_bag" = some (.ref f) ∧ L2.Fun K "_law_bag" "_law_bag" s__law_bag f fd
  d__law_stirred : ∃ f fd, mg "_law_stirred" = some (.ref f) ∧ L2.Fun K "_law_stirred" "_law_stirred" s__law_stirred f fd
  d__law_draw : ∃ f fd, mg "_law_draw" = some (.ref f) ∧ L2.Fun K "_law_draw" "_law_draw" s__law_draw f fd
  d__law_common : ∃ f fd, mg "_law_common" = some (.ref f) ∧ L2.Fun K "_law_common" "_law_common" s__law_common f fd
  d__law_reduced : ∃ f fd, mg "_law_reduced" = some (.ref f) ∧ L2.Fun K "_law_reduced" "_law_reduced" s__law_reduced f fd
  d__law_drawn : ∃ f fd, mg "_law_drawn" = some (.ref f) ∧ L2.Fun K "_law_drawn" "_law_drawn" s__law_drawn f fd
  d__law_simple : ∃ f fd, mg "_law_simple" = some (.ref f) ∧ L2.Fun K "_law_simple" "_law_simple" s__law_simple f fd
  d__law_cup : ∃ f fd, mg "_law_cup" = some (.ref f) ∧ L2.Fun K "_law_cup" "_law_cup" s__law_cup f fd
  d__law_poured : ∃ f fd, mg "_law_poured" = some (.ref f) ∧ L2.Fun K "_law_poured" "_law_poured" s__law_poured f fd
  d_is_integer : ∃ f fd, mg "is_integer" = some (.ref f) ∧ L2.Fun K "is_integer" "is_integer" s_is_integer f fd
  d_are_parts : ∃ f fd, mg "are_parts" = some (.ref f) ∧ L2.Fun K "are_parts" "are_parts" s_are_parts f fd
  d_common_divisor : ∃ f fd, mg "common_divisor" = some (.ref f) ∧ L2.Fun K "common_divisor" "common_divisor" s_common_divisor f fd
  d_divisor_of : ∃ f fd, mg "divisor_of" = some (.ref f) ∧ L2.Fun K "divisor_of" "divisor_of" s_divisor_of f fd
  d_is_content : ∃ f fd, mg "is_content" = some (.ref f) ∧ L2.Fun K "is_content" "is_content" s_is_content f fd
  d_need_content : ∃ f fd, mg "need_content" = some (.ref f) ∧ L2.Fun K "need_content" "need_content" s_need_content f fd
  d_need_two_pots : ∃ f fd, mg "need_two_pots" = some (.ref f) ∧ L2.Fun K "need_two_pots" "need_two_pots" s_need_two_pots f fd
  d_is_cup : ∃ f fd, mg "is_cup" = some (.ref f) ∧ L2.Fun K "is_cup" "is_cup" s_is_cup f fd
  d_need_cup : ∃ f fd, mg "need_cup" = some (.ref f) ∧ L2.Fun K "need_cup" "need_cup" s_need_cup f fd
  d_without_divisor : ∃ f fd, mg "without_divisor" = some (.ref f) ∧ L2.Fun K "without_divisor" "without_divisor" s_without_divisor f fd
  d_pot_behind : ∃ f fd, mg "pot_behind" = some (.ref f) ∧ L2.Fun K "pot_behind" "pot_behind" s_pot_behind f fd
  d_to_and_fro : ∃ f fd, mg "to_and_fro" = some (.ref f) ∧ L2.Fun K "to_and_fro" "to_and_fro" s_to_and_fro f fd
  d__law_alike : ∃ f fd, mg "_law_alike" = some (.ref f) ∧ L2.Fun K "_law_alike" "_law_alike" s__law_alike f fd
  d_need_pots : ∃ f fd, mg "need_pots" = some (.ref f) ∧ L2.Fun K "need_pots" "need_pots" s_need_pots f fd
  d_is_deed : ∃ f fd, mg "is_deed" = some (.ref f) ∧ L2.Fun K "is_deed" "is_deed" s_is_deed f fd
  d_cups_row : ∃ f fd, mg "cups_row" = some (.ref f) ∧ L2.Fun K "cups_row" "cups_row" s_cups_row f fd
  d__law_row_right : ∃ f fd, mg "_law_row_right" = some (.ref f) ∧ L2.Fun K "_law_row_right" "_law_row_right" s__law_row_right f fd
  d_simplest : ∃ f fd, mg "simplest" = some (.ref f) ∧ L2.Fun K "simplest" "simplest" s_simplest f fd
  d_carried : ∃ f fd, mg "carried" = some (.ref f) ∧ L2.Fun K "carried" "carried" s_carried f fd
  d__law_equal_right : ∃ f fd, mg "_law_equal_right" = some (.ref f) ∧ L2.Fun K "_law_equal_right" "_law_equal_right" s__law_equal_right f fd
  d_law : ∃ f fd, mg "law" = some (.ref f) ∧ L2.Fun K "law" "law" s_law f fd
section
variable {P : Program} {w : World} {K : PySem.W.Frag} {mg : Str → Option Value} {base : Heap}
theorem fa__law_alike__bad_2 (E : Env K mg) : Fa P w K mg base 0 "_law_alike" (denBad ["found", "due"]) 2 [] := by
  obtain ⟨f, fd, h1, h2⟩ := E.d__law_alike
  refine ⟨f, fd, h1, h2.kp, fnG_bad, ?_⟩
  obtain ⟨oc, od, kV, doc, pm, an, cdv, ct, osl, rfl, lk, hcd⟩ := h2.ex
  exact bd_all fun us hl => match us, hl with | [_, _], _ => rfl
theorem nd__law_bag (E : Env K mg) : NdSs P w K mg base 0 f__law_bag.body := by
  unfold f__law_bag
  repeat' apply And.intro
  all_goals first | exact trivial | assumption | exact E.b_abs | exact E.b_int | exact fun T hT => by cases List.mem_singleton.mp hT; exact E.b_int
theorem fa__law_bag_1 (E : Env K mg) : Fa P w K mg base 1 "_law_bag" (denF f__law_bag) 1 [] := by
  obtain ⟨f, fd, h1, h2⟩ := E.d__law_bag
  refine ⟨f, fd, h1, h2.kp, fnG_of h2 sc__law_bag ck__law_bag (nd__law_bag E), ?_⟩
  obtain ⟨oc, od, kV, doc, pm, an, cdv, ct, osl, rfl, lk, hcd⟩ := h2.ex
  exact bd_all fun us hl => match us, hl with | [_], _ => rfl
theorem nd__law_stirred (E : Env K mg) : NdSs P w K mg base 0 f__law_stirred.body := by
  unfold f__law_stirred
  repeat' apply And.intro
  all_goals first | exact trivial | assumption | exact E.b_int | exact E.b_range | exact fun T hT => by cases List.mem_singleton.mp hT; exact E.b_int
theorem fa__law_stirred_2 (E : Env K mg) : Fa P w K mg base 1 "_law_stirred" (denF f__law_stirred) 2 [] := by
  obtain ⟨f, fd, h1, h2⟩ := E.d__law_stirred
  refine ⟨f, fd, h1, h2.kp, fnG_of h2 sc__law_stirred ck__law_stirred (nd__law_stirred E), ?_⟩
  obtain ⟨oc, od, kV, doc, pm, an, cdv, ct, osl, rfl, lk, hcd⟩ := h2.ex
  exact bd_all fun us hl => match us, hl with | [_, _], _ => rfl
theorem nd__law_draw (E : Env K mg) : NdSs P w K mg base 1 f__law_draw.body := by
  have h0 := fa__law_stirred_2 E (P := P) (w := w) (base := base)
  unfold f__law_draw
  repeat' apply And.intro
  all_goals first | exact trivial | assumption | exact h0.mono (by decide) | exact E.b_int | exact E.b_len | exact fun T hT => by cases List.mem_singleton.mp hT; exact E.b_int
theorem fa__law_draw_2 (E : Env K mg) : Fa P w K mg base 2 "_law_draw" (denF f__law_draw) 2 [] := by
  obtain ⟨f, fd, h1, h2⟩ := E.d__law_draw
  refine ⟨f, fd, h1, h2.kp, fnG_of h2 sc__law_draw ck__law_draw (nd__law_draw E), ?_⟩
  obtain ⟨oc, od, kV, doc, pm, an, cdv, ct, osl, rfl, lk, hcd⟩ := h2.ex
  exact bd_all fun us hl => match us, hl with | [_, _], _ => rfl
theorem nd__law_common (E : Env K mg) : NdSs P w K mg base 0 f__law_common.body := by
  unfold f__law_common
  repeat' apply And.intro
  all_goals first | exact trivial | assumption | exact E.b_int | exact fun T hT => by cases List.mem_singleton.mp hT; exact E.b_int
theorem fa__law_common_2 (E : Env K mg) : Fa P w K mg base 1 "_law_common" (denF f__law_common) 2 [] := by
  obtain ⟨f, fd, h1, h2⟩ := E.d__law_common
  refine ⟨f, fd, h1, h2.kp, fnG_of h2 sc__law_common ck__law_common (nd__law_common E), ?_⟩
  obtain ⟨oc, od, kV, doc, pm, an, cdv, ct, osl, rfl, lk, hcd⟩ := h2.ex
  exact bd_all fun us hl => match us, hl with | [_, _], _ => rfl
theorem nd__law_reduced (E : Env K mg) : NdSs P w K mg base 1 f__law_reduced.body := by
  have h0 := fa__law_common_2 E (P := P) (w := w) (base := base)
  unfold f__law_reduced
  repeat' apply And.intro
  all_goals first | exact trivial | assumption | exact h0.mono (by decide)
theorem fa__law_reduced_1 (E : Env K mg) : Fa P w K mg base 2 "_law_reduced" (denF f__law_reduced) 1 [] := by
  obtain ⟨f, fd, h1, h2⟩ := E.d__law_reduced
  refine ⟨f, fd, h1, h2.kp, fnG_of h2 sc__law_reduced ck__law_reduced (nd__law_reduced E), ?_⟩
  obtain ⟨oc, od, kV, doc, pm, an, cdv, ct, osl, rfl, lk, hcd⟩ := h2.ex
  exact bd_all fun us hl => match us, hl with | [_], _ => rfl
theorem nd__law_drawn (E : Env K mg) : NdSs P w K mg base 2 f__law_drawn.body := by
  have h0 := fa__law_draw_2 E (P := P) (w := w) (base := base)
  have h1 := fa__law_reduced_1 E (P := P) (w := w) (base := base)
  unfold f__law_drawn
  repeat' apply And.intro
  all_goals first | exact trivial | assumption | exact h0.mono (by decide) | exact h1.mono (by decide) | exact E.b_range | exact E.b_sum
theorem fa__law_drawn_3 (E : Env K mg) : Fa P w K mg base 3 "_law_drawn" (denF f__law_drawn) 3 [] := by
  obtain ⟨f, fd, h1, h2⟩ := E.d__law_drawn
  refine ⟨f, fd, h1, h2.kp, fnG_of h2 sc__law_drawn ck__law_drawn (nd__law_drawn E), ?_⟩
  obtain ⟨oc, od, kV, doc, pm, an, cdv, ct, osl, rfl, lk, hcd⟩ := h2.ex
  exact bd_all fun us hl => match us, hl with | [_, _, _], _ => rfl
theorem nd__law_simple (E : Env K mg) : NdSs P w K mg base 1 f__law_simple.body := by
  have h0 := fa__law_common_2 E (P := P) (w := w) (base := base)
  unfold f__law_simple
  repeat' apply And.intro
  all_goals first | exact trivial | assumption | exact h0.mono (by decide) | exact E.b_abs
theorem fa__law_simple_2 (E : Env K mg) : Fa P w K mg base 2 "_law_simple" (denF f__law_simple) 2 [] := by
  obtain ⟨f, fd, h1, h2⟩ := E.d__law_simple
  refine ⟨f, fd, h1, h2.kp, fnG_of h2 sc__law_simple ck__law_simple (nd__law_simple E), ?_⟩
  obtain ⟨oc, od, kV, doc, pm, an, cdv, ct, osl, rfl, lk, hcd⟩ := h2.ex
  exact bd_all fun us hl => match us, hl with | [_, _], _ => rfl
theorem nd__law_cup (E : Env K mg) : NdSs P w K mg base 2 f__law_cup.body := by
  have h0 := fa__law_draw_2 E (P := P) (w := w) (base := base)
  have h1 := fa__law_simple_2 E (P := P) (w := w) (base := base)
  unfold f__law_cup
  repeat' apply And.intro
  all_goals first | exact trivial | assumption | exact h0.mono (by decide) | exact h1.mono (by decide)
theorem fa__law_cup_2 (E : Env K mg) : Fa P w K mg base 3 "_law_cup" (denF f__law_cup) 2 [] := by
  obtain ⟨f, fd, h1, h2⟩ := E.d__law_cup
  refine ⟨f, fd, h1, h2.kp, fnG_of h2 sc__law_cup ck__law_cup (nd__law_cup E), ?_⟩
  obtain ⟨oc, od, kV, doc, pm, an, cdv, ct, osl, rfl, lk, hcd⟩ := h2.ex
  exact bd_all fun us hl => match us, hl with | [_, _], _ => rfl
theorem nd__law_poured (E : Env K mg) : NdSs P w K mg base 2 f__law_poured.body := by
  have h0 := fa__law_reduced_1 E (P := P) (w := w) (base := base)
  unfold f__law_poured
  repeat' apply And.intro
  all_goals first | exact trivial | assumption | exact h0.mono (by decide) | exact E.b_sum | exact E.b_zip
theorem fa__law_poured_3 (E : Env K mg) : Fa P w K mg base 3 "_law_poured" (denF f__law_poured) 3 [] := by
  obtain ⟨f, fd, h1, h2⟩ := E.d__law_poured
  refine ⟨f, fd, h1, h2.kp, fnG_of h2 sc__law_poured ck__law_poured (nd__law_poured E), ?_⟩
  obtain ⟨oc, od, kV, doc, pm, an, cdv, ct, osl, rfl, lk, hcd⟩ := h2.ex
  exact bd_all fun us hl => match us, hl with | [_, _, _], _ => rfl
theorem nd_is_integer (E : Env K mg) : NdSs P w K mg base 0 f_is_integer.body := by
  unfold f_is_integer
  repeat' apply And.intro
  all_goals first | exact trivial | assumption | exact E.b_bool | exact E.b_int | exact E.b_isinstance | exact fun T hT => by cases List.mem_singleton.mp hT; exact E.b_bool | exact fun T hT => by cases List.mem_singleton.mp hT; exact E.b_int | exact fun T hT => by (simp only [List.mem_cons, List.not_mem_nil, or_false] at hT; rcases hT with rfl | rfl; exact E.b_bool; exact E.b_int) | exact fun T hT => by (simp only [List.mem_cons, List.not_mem_nil, or_false] at hT; rcases hT with rfl | rfl; exact E.b_int; exact E.b_bool)
theorem fa_is_integer_1 (E : Env K mg) : Fa P w K mg base 1 "is_integer" (denF f_is_integer) 1 [] := by
  obtain ⟨f, fd, h1, h2⟩ := E.d_is_integer
  refine ⟨f, fd, h1, h2.kp, fnG_of h2 sc_is_integer ck_is_integer (nd_is_integer E), ?_⟩
  obtain ⟨oc, od, kV, doc, pm, an, cdv, ct, osl, rfl, lk, hcd⟩ := h2.ex
  exact bd_all fun us hl => match us, hl with | [_], _ => rfl
theorem nd_are_parts (E : Env K mg) : NdSs P w K mg base 1 f_are_parts.body := by
  have h0 := fa_is_integer_1 E (P := P) (w := w) (base := base)
  unfold f_are_parts
  repeat' apply And.intro
  all_goals first | exact trivial | assumption | exact h0.mono (by decide) | exact E.b_all | exact E.b_isinstance | exact E.b_len | exact E.b_list | exact E.b_sum | exact fun T hT => by cases List.mem_singleton.mp hT; exact E.b_list | exact (let ⟨u, h1, h2⟩ := E.g_MOST_LIQUIDS; ⟨_, u, h1, h2, by first | exact .int _ | exact .str _⟩)
theorem fa_are_parts_1 (E : Env K mg) : Fa P w K mg base 2 "are_parts" (denF f_are_parts) 1 [] := by
  obtain ⟨f, fd, h1, h2⟩ := E.d_are_parts
  refine ⟨f, fd, h1, h2.kp, fnG_of h2 sc_are_parts ck_are_parts (nd_are_parts E), ?_⟩
  obtain ⟨oc, od, kV, doc, pm, an, cdv, ct, osl, rfl, lk, hcd⟩ := h2.ex
  exact bd_all fun us hl => match us, hl with | [_], _ => rfl
theorem nd_common_divisor (E : Env K mg) : NdSs P w K mg base 0 f_common_divisor.body := by
  unfold f_common_divisor
  repeat' apply And.intro
  all_goals first | exact trivial | assumption | exact E.b_abs
theorem fa_common_divisor_2 (E : Env K mg) : Fa P w K mg base 1 "common_divisor" (denF f_common_divisor) 2 [] := by
  obtain ⟨f, fd, h1, h2⟩ := E.d_common_divisor
  refine ⟨f, fd, h1, h2.kp, fnG_of h2 sc_common_divisor ck_common_divisor (nd_common_divisor E), ?_⟩
  obtain ⟨oc, od, kV, doc, pm, an, cdv, ct, osl, rfl, lk, hcd⟩ := h2.ex
  exact bd_all fun us hl => match us, hl with | [_, _], _ => rfl
theorem nd_divisor_of (E : Env K mg) : NdSs P w K mg base 1 f_divisor_of.body := by
  have h0 := fa_common_divisor_2 E (P := P) (w := w) (base := base)
  unfold f_divisor_of
  repeat' apply And.intro
  all_goals first | exact trivial | assumption | exact h0.mono (by decide)
theorem fa_divisor_of_1 (E : Env K mg) : Fa P w K mg base 2 "divisor_of" (denF f_divisor_of) 1 [] := by
  obtain ⟨f, fd, h1, h2⟩ := E.d_divisor_of
  refine ⟨f, fd, h1, h2.kp, fnG_of h2 sc_divisor_of ck_divisor_of (nd_divisor_of E), ?_⟩
  obtain ⟨oc, od, kV, doc, pm, an, cdv, ct, osl, rfl, lk, hcd⟩ := h2.ex
  exact bd_all fun us hl => match us, hl with | [_], _ => rfl
theorem nd_is_content (E : Env K mg) : NdSs P w K mg base 2 f_is_content.body := by
  have h0 := fa_are_parts_1 E (P := P) (w := w) (base := base)
  have h1 := fa_divisor_of_1 E (P := P) (w := w) (base := base)
  unfold f_is_content
  repeat' apply And.intro
  all_goals first | exact trivial | assumption | exact h0.mono (by decide) | exact h1.mono (by decide)
theorem fa_is_content_1 (E : Env K mg) : Fa P w K mg base 3 "is_content" (denF f_is_content) 1 [] := by
  obtain ⟨f, fd, h1, h2⟩ := E.d_is_content
  refine ⟨f, fd, h1, h2.kp, fnG_of h2 sc_is_content ck_is_content (nd_is_content E), ?_⟩
  obtain ⟨oc, od, kV, doc, pm, an, cdv, ct, osl, rfl, lk, hcd⟩ := h2.ex
  exact bd_all fun us hl => match us, hl with | [_], _ => rfl
theorem nd_need_content (E : Env K mg) : NdSs P w K mg base 3 f_need_content.body := by
  have h0 := fa_is_content_1 E (P := P) (w := w) (base := base)
  unfold f_need_content
  repeat' apply And.intro
  all_goals first | exact trivial | assumption | exact h0.mono (by decide)
theorem fa_need_content_1 (E : Env K mg) : Fa P w K mg base 4 "need_content" (denF f_need_content) 1 [] := by
  obtain ⟨f, fd, h1, h2⟩ := E.d_need_content
  refine ⟨f, fd, h1, h2.kp, fnG_of h2 sc_need_content ck_need_content (nd_need_content E), ?_⟩
  obtain ⟨oc, od, kV, doc, pm, an, cdv, ct, osl, rfl, lk, hcd⟩ := h2.ex
  exact bd_all fun us hl => match us, hl with | [_], _ => rfl
theorem nd_need_two_pots (E : Env K mg) : NdSs P w K mg base 4 f_need_two_pots.body := by
  have h0 := fa_need_content_1 E (P := P) (w := w) (base := base)
  unfold f_need_two_pots
  repeat' apply And.intro
  all_goals first | exact trivial | assumption | exact h0.mono (by decide) | exact E.b_len
theorem fa_need_two_pots_2 (E : Env K mg) : Fa P w K mg base 5 "need_two_pots" (denF f_need_two_pots) 2 [] := by
  obtain ⟨f, fd, h1, h2⟩ := E.d_need_two_pots
  refine ⟨f, fd, h1, h2.kp, fnG_of h2 sc_need_two_pots ck_need_two_pots (nd_need_two_pots E), ?_⟩
  obtain ⟨oc, od, kV, doc, pm, an, cdv, ct, osl, rfl, lk, hcd⟩ := h2.ex
  exact bd_all fun us hl => match us, hl with | [_, _], _ => rfl
theorem nd_is_cup (E : Env K mg) : NdSs P w K mg base 1 f_is_cup.body := by
  have h0 := fa_common_divisor_2 E (P := P) (w := w) (base := base)
  have h1 := fa_is_integer_1 E (P := P) (w := w) (base := base)
  unfold f_is_cup
  repeat' apply And.intro
  all_goals first | exact trivial | assumption | exact h0.mono (by decide) | exact h1.mono (by decide) | exact E.b_all | exact E.b_isinstance | exact E.b_len | exact E.b_tuple | exact fun T hT => by cases List.mem_singleton.mp hT; exact E.b_tuple | exact (let ⟨u, h1, h2⟩ := E.g_MOST_CUP; ⟨_, u, h1, h2, by first | exact .int _ | exact .str _⟩)
theorem fa_is_cup_1 (E : Env K mg) : Fa P w K mg base 2 "is_cup" (denF f_is_cup) 1 [] := by
  obtain ⟨f, fd, h1, h2⟩ := E.d_is_cup
  refine ⟨f, fd, h1, h2.kp, fnG_of h2 sc_is_cup ck_is_cup (nd_is_cup E), ?_⟩
  obtain ⟨oc, od, kV, doc, pm, an, cdv, ct, osl, rfl, lk, hcd⟩ := h2.ex
  exact bd_all fun us hl => match us, hl with | [_], _ => rfl
theorem nd_need_cup (E : Env K mg) : NdSs P w K mg base 2 f_need_cup.body := by
  have h0 := fa_is_cup_1 E (P := P) (w := w) (base := base)
  unfold f_need_cup
  repeat' apply And.intro
  all_goals first | exact trivial | assumption | exact h0.mono (by decide)
theorem fa_need_cup_1 (E : Env K mg) : Fa P w K mg base 3 "need_cup" (denF f_need_cup) 1 [] := by
  obtain ⟨f, fd, h1, h2⟩ := E.d_need_cup
  refine ⟨f, fd, h1, h2.kp, fnG_of h2 sc_need_cup ck_need_cup (nd_need_cup E), ?_⟩
  obtain ⟨oc, od, kV, doc, pm, an, cdv, ct, osl, rfl, lk, hcd⟩ := h2.ex
  exact bd_all fun us hl => match us, hl with | [_], _ => rfl
theorem nd_without_divisor (E : Env K mg) : NdSs P w K mg base 2 f_without_divisor.body := by
  have h0 := fa_divisor_of_1 E (P := P) (w := w) (base := base)
  unfold f_without_divisor
  repeat' apply And.intro
  all_goals first | exact trivial | assumption | exact h0.mono (by decide)
theorem fa_without_divisor_1 (E : Env K mg) : Fa P w K mg base 3 "without_divisor" (denF f_without_divisor) 1 [] := by
  obtain ⟨f, fd, h1, h2⟩ := E.d_without_divisor
  refine ⟨f, fd, h1, h2.kp, fnG_of h2 sc_without_divisor ck_without_divisor (nd_without_divisor E), ?_⟩
  obtain ⟨oc, od, kV, doc, pm, an, cdv, ct, osl, rfl, lk, hcd⟩ := h2.ex
  exact bd_all fun us hl => match us, hl with | [_], _ => rfl
theorem nd_pot_behind (E : Env K mg) : NdSs P w K mg base 3 f_pot_behind.body := by
  have h0 := fa_without_divisor_1 E (P := P) (w := w) (base := base)
  unfold f_pot_behind
  repeat' apply And.intro
  all_goals first | exact trivial | assumption | exact h0.mono (by decide) | exact E.b_sum | exact E.b_zip
theorem fa_pot_behind_3 (E : Env K mg) : Fa P w K mg base 4 "pot_behind" (denF f_pot_behind) 3 [] := by
  obtain ⟨f, fd, h1, h2⟩ := E.d_pot_behind
  refine ⟨f, fd, h1, h2.kp, fnG_of h2 sc_pot_behind ck_pot_behind (nd_pot_behind E), ?_⟩
  obtain ⟨oc, od, kV, doc, pm, an, cdv, ct, osl, rfl, lk, hcd⟩ := h2.ex
  exact bd_all fun us hl => match us, hl with | [_, _, _], _ => rfl
theorem nd_to_and_fro (E : Env K mg) : NdSs P w K mg base 5 f_to_and_fro.body := by
  have h0 := fa_need_cup_1 E (P := P) (w := w) (base := base)
  have h1 := fa_need_two_pots_2 E (P := P) (w := w) (base := base)
  have h2 := fa_pot_behind_3 E (P := P) (w := w) (base := base)
  unfold f_to_and_fro
  repeat' apply And.intro
  all_goals first | exact trivial | assumption | exact h0.mono (by decide) | exact h1.mono (by decide) | exact h2.mono (by decide)
theorem fa_to_and_fro_0_second_first_cup (E : Env K mg) : Fa P w K mg base 6 "to_and_fro" (denF f_to_and_fro) 0 ["second", "first", "cup"] := by
  obtain ⟨f, fd, h1, h2⟩ := E.d_to_and_fro
  refine ⟨f, fd, h1, h2.kp, fnG_of h2 sc_to_and_fro ck_to_and_fro (nd_to_and_fro E), ?_⟩
  obtain ⟨oc, od, kV, doc, pm, an, cdv, ct, osl, rfl, lk, hcd⟩ := h2.ex
  exact fun s us ws zs _ h1 h2 h3 => match us, ws, h1, h2, h3 with | [], [w0, w1, w2], _, _, h3 => by (cases h3; exact .of_eq (by with_unfolding_all rfl))
theorem fa_to_and_fro_3 (E : Env K mg) : Fa P w K mg base 6 "to_and_fro" (denF f_to_and_fro) 3 [] := by
  obtain ⟨f, fd, h1, h2⟩ := E.d_to_and_fro
  refine ⟨f, fd, h1, h2.kp, fnG_of h2 sc_to_and_fro ck_to_and_fro (nd_to_and_fro E), ?_⟩
  obtain ⟨oc, od, kV, doc, pm, an, cdv, ct, osl, rfl, lk, hcd⟩ := h2.ex
  exact bd_all fun us hl => match us, hl with | [_, _, _], _ => rfl
theorem nd__law_aliker0 (E : Env K mg) : NdSs P w K mg base 0 f__law_aliker0.body := by
  have h0 := fa__law_alike__bad_2 E (P := P) (w := w) (base := base)
  unfold f__law_aliker0
  repeat' apply And.intro
  all_goals first | exact trivial | assumption | exact h0.mono (by decide) | exact E.b_all | exact E.b_bool | exact E.b_int | exact E.b_isinstance | exact E.b_len | exact E.b_list | exact E.b_range | exact E.b_str | exact E.b_tuple | exact fun T hT => by cases List.mem_singleton.mp hT; exact E.b_bool | exact fun T hT => by cases List.mem_singleton.mp hT; exact E.b_int | exact fun T hT => by cases List.mem_singleton.mp hT; exact E.b_list | exact fun T hT => by cases List.mem_singleton.mp hT; exact E.b_str | exact fun T hT => by cases List.mem_singleton.mp hT; exact E.b_tuple | exact fun T hT => by (simp only [List.mem_cons, List.not_mem_nil, or_false] at hT; rcases hT with rfl | rfl; exact E.b_bool; exact E.b_int) | exact fun T hT => by (simp only [List.mem_cons, List.not_mem_nil, or_false] at hT; rcases hT with rfl | rfl; exact E.b_bool; exact E.b_list) | exact fun T hT => by (simp only [List.mem_cons, List.not_mem_nil, or_false] at hT; rcases hT with rfl | rfl; exact E.b_bool; exact E.b_str) | exact fun T hT => by (simp only [List.mem_cons, List.not_mem_nil, or_false] at hT; rcases hT with rfl | rfl; exact E.b_bool; exact E.b_tuple) | exact fun T hT => by (simp only [List.mem_cons, List.not_mem_nil, or_false] at hT; rcases hT with rfl | rfl; exact E.b_int; exact E.b_bool) | exact fun T hT => by (simp only [List.mem_cons, List.not_mem_nil, or_false] at hT; rcases hT with rfl | rfl; exact E.b_int; exact E.b_list) | exact fun T hT => by (simp only [List.mem_cons, List.not_mem_nil, or_false] at hT; rcases hT with rfl | rfl; exact E.b_int; exact E.b_str) | exact fun T hT => by (simp only [List.mem_cons, List.not_mem_nil, or_false] at hT; rcases hT with rfl | rfl; exact E.b_int; exact E.b_tuple) | exact fun T hT => by (simp only [List.mem_cons, List.not_mem_nil, or_false] at hT; rcases hT with rfl | rfl; exact E.b_list; exact E.b_bool) | exact fun T hT => by (simp only [List.mem_cons, List.not_mem_nil, or_false] at hT; rcases hT with rfl | rfl; exact E.b_list; exact E.b_int) | exact fun T hT => by (simp only [List.mem_cons, List.not_mem_nil, or_false] at hT; rcases hT with rfl | rfl; exact E.b_list; exact E.b_str) | exact fun T hT => by (simp only [List.mem_cons, List.not_mem_nil, or_false] at hT; rcases hT with rfl | rfl; exact E.b_list; exact E.b_tuple) | exact fun T hT => by (simp only [List.mem_cons, List.not_mem_nil, or_false] at hT; rcases hT with rfl | rfl; exact E.b_str; exact E.b_bool) | exact fun T hT => by (simp only [List.mem_cons, List.not_mem_nil, or_false] at hT; rcases hT with rfl | rfl; exact E.b_str; exact E.b_int) | exact fun T hT => by (simp only [List.mem_cons, List.not_mem_nil, or_false] at hT; rcases hT with rfl | rfl; exact E.b_str; exact E.b_list) | exact fun T hT => by (simp only [List.mem_cons, List.not_mem_nil, or_false] at hT; rcases hT with rfl | rfl; exact E.b_str; exact E.b_tuple) | exact fun T hT => by (simp only [List.mem_cons, List.not_mem_nil, or_false] at hT; rcases hT with rfl | rfl; exact E.b_tuple; exact E.b_bool) | exact fun T hT => by (simp only [List.mem_cons, List.not_mem_nil, or_false] at hT; rcases hT with rfl | rfl; exact E.b_tuple; exact E.b_int) | exact fun T hT => by (simp only [List.mem_cons, List.not_mem_nil, or_false] at hT; rcases hT with rfl | rfl; exact E.b_tuple; exact E.b_list) | exact fun T hT => by (simp only [List.mem_cons, List.not_mem_nil, or_false] at hT; rcases hT with rfl | rfl; exact E.b_tuple; exact E.b_str)
theorem fa__law_aliker0_2 (E : Env K mg) : Fa P w K mg base 1 "_law_alike" (denF f__law_aliker0) 2 [] := by
  obtain ⟨f, fd, h1, h2⟩ := E.d__law_alike
  refine ⟨f, fd, h1, h2.kp, fnG_of h2 sc__law_aliker0 ck__law_aliker0 (nd__law_aliker0 E), ?_⟩
  obtain ⟨oc, od, kV, doc, pm, an, cdv, ct, osl, rfl, lk, hcd⟩ := h2.ex
  exact bd_all fun us hl => match us, hl with | [_, _], _ => rfl
theorem nd__law_aliker1 (E : Env K mg) : NdSs P w K mg base 1 f__law_aliker1.body := by
  have h0 := fa__law_aliker0_2 E (P := P) (w := w) (base := base)
  unfold f__law_aliker1
  repeat' apply And.intro
  all_goals first | exact trivial | assumption | exact h0.mono (by decide) | exact E.b_all | exact E.b_bool | exact E.b_int | exact E.b_isinstance | exact E.b_len | exact E.b_list | exact E.b_range | exact E.b_str | exact E.b_tuple | exact fun T hT => by cases List.mem_singleton.mp hT; exact E.b_bool | exact fun T hT => by cases List.mem_singleton.mp hT; exact E.b_int | exact fun T hT => by cases List.mem_singleton.mp hT; exact E.b_list | exact fun T hT => by cases List.mem_singleton.mp hT; exact E.b_str | exact fun T hT => by cases List.mem_singleton.mp hT; exact E.b_tuple | exact fun T hT => by (simp only [List.mem_cons, List.not_mem_nil, or_false] at hT; rcases hT with rfl | rfl; exact E.b_bool; exact E.b_int) | exact fun T hT => by (simp only [List.mem_cons, List.not_mem_nil, or_false] at hT; rcases hT with rfl | rfl; exact E.b_bool; exact E.b_list) | exact fun T hT => by (simp only [List.mem_cons, List.not_mem_nil, or_false] at hT; rcases hT with rfl | rfl; exact E.b_bool; exact E.b_str) | exact fun T hT => by (simp only [List.mem_cons, List.not_mem_nil, or_false] at hT; rcases hT with rfl | rfl; exact E.b_bool; exact E.b_tuple) | exact fun T hT => by (simp only [List.mem_cons, List.not_mem_nil, or_false] at hT; rcases hT with rfl | rfl; exact E.b_int; exact E.b_bool) | exact fun T hT => by (simp only [List.mem_cons, List.not_mem_nil, or_false] at hT; rcases hT with rfl | rfl; exact E.b_int; exact E.b_list) | exact fun T hT => by (simp only [List.mem_cons, List.not_mem_nil, or_false] at hT; rcases hT with rfl | rfl; exact E.b_int; exact E.b_str) | exact fun T hT => by (simp only [List.mem_cons, List.not_mem_nil, or_false] at hT; rcases hT with rfl | rfl; exact E.b_int; exact E.b_tuple) | exact fun T hT => by (simp only [List.mem_cons, List.not_mem_nil, or_false] at hT; rcases hT with rfl | rfl; exact E.b_list; exact E.b_bool) | exact fun T hT => by (simp only [List.mem_cons, List.not_mem_nil, or_false] at hT; rcases hT with rfl | rfl; exact E.b_list; exact E.b_int) | exact fun T hT => by (simp only [List.mem_cons, List.not_mem_nil, or_false] at hT; rcases hT with rfl | rfl; exact E.b_list; exact E.b_str) | exact fun T hT => by (simp only [List.mem_cons, List.not_mem_nil, or_false] at hT; rcases hT with rfl | rfl; exact E.b_list; exact E.b_tuple) | exact fun T hT => by (simp only [List.mem_cons, List.not_mem_nil, or_false] at hT; rcases hT with rfl | rfl; exact E.b_str; exact E.b_bool) | exact fun T hT => by (simp only [List.mem_cons, List.not_mem_nil, or_false] at hT; rcases hT with rfl | rfl; exact E.b_str; exact E.b_int) | exact fun T hT => by (simp only [List.mem_cons, List.not_mem_nil, or_false] at hT; rcases hT with rfl | rfl; exact E.b_str; exact E.b_list) | exact fun T hT => by (simp only [List.mem_cons, List.not_mem_nil, or_false] at hT; rcases hT with rfl | rfl; exact E.b_str; exact E.b_tuple) | exact fun T hT => by (simp only [List.mem_cons, List.not_mem_nil, or_false] at hT; rcases hT with rfl | rfl; exact E.b_tuple; exact E.b_bool) | exact fun T hT => by (simp only [List.mem_cons, List.not_mem_nil, or_false] at hT; rcases hT with rfl | rfl; exact E.b_tuple; exact E.b_int) | exact fun T hT => by (simp only [List.mem_cons, List.not_mem_nil, or_false] at hT; rcases hT with rfl | rfl; exact E.b_tuple; exact E.b_list) | exact fun T hT => by (simp only [List.mem_cons, List.not_mem_nil, or_false] at hT; rcases hT with rfl | rfl; exact E.b_tuple; exact E.b_str)
theorem fa__law_aliker1_2 (E : Env K mg) : Fa P w K mg base 2 "_law_alike" (denF f__law_aliker1) 2 [] := by
  obtain ⟨f, fd, h1, h2⟩ := E.d__law_alike
  refine ⟨f, fd, h1, h2.kp, fnG_of h2 sc__law_aliker1 ck__law_aliker1 (nd__law_aliker1 E), ?_⟩
  obtain ⟨oc, od, kV, doc, pm, an, cdv, ct, osl, rfl, lk, hcd⟩ := h2.ex
  exact bd_all fun us hl => match us, hl with | [_, _], _ => rfl
theorem nd__law_aliker2 (E : Env K mg) : NdSs P w K mg base 2 f__law_aliker2.body := by
  have h0 := fa__law_aliker1_2 E (P := P) (w := w) (base := base)
  unfold f__law_aliker2
  repeat' apply And.intro
  all_goals first | exact trivial | assumption | exact h0.mono (by decide) | exact E.b_all | exact E.b_bool | exact E.b_int | exact E.b_isinstance | exact E.b_len | exact E.b_list | exact E.b_range | exact E.b_str | exact E.b_tuple | exact fun T hT => by cases List.mem_singleton.mp hT; exact E.b_bool | exact fun T hT => by cases List.mem_singleton.mp hT; exact E.b_int | exact fun T hT => by cases List.mem_singleton.mp hT; exact E.b_list | exact fun T hT => by cases List.mem_singleton.mp hT; exact E.b_str | exact fun T hT => by cases List.mem_singleton.mp hT; exact E.b_tuple | exact fun T hT => by (simp only [List.mem_cons, List.not_mem_nil, or_false] at hT; rcases hT with rfl | rfl; exact E.b_bool; exact E.b_int) | exact fun T hT => by (simp only [List.mem_cons, List.not_mem_nil, or_false] at hT; rcases hT with rfl | rfl; exact E.b_bool; exact E.b_list) | exact fun T hT => by (simp only [List.mem_cons, List.not_mem_nil, or_false] at hT; rcases hT with rfl | rfl; exact E.b_bool; exact E.b_str) | exact fun T hT => by (simp only [List.mem_cons, List.not_mem_nil, or_false] at hT; rcases hT with rfl | rfl; exact E.b_bool; exact E.b_tuple) | exact fun T hT => by (simp only [List.mem_cons, List.not_mem_nil, or_false] at hT; rcases hT with rfl | rfl; exact E.b_int; exact E.b_bool) | exact fun T hT => by (simp only [List.mem_cons, List.not_mem_nil, or_false] at hT; rcases hT with rfl | rfl; exact E.b_int; exact E.b_list) | exact fun T hT => by (simp only [List.mem_cons, List.not_mem_nil, or_false] at hT; rcases hT with rfl | rfl; exact E.b_int; exact E.b_str) | exact fun T hT => by (simp only [List.mem_cons, List.not_mem_nil, or_false] at hT; rcases hT with rfl | rfl; exact E.b_int; exact E.b_tuple) | exact fun T hT => by (simp only [List.mem_cons, List.not_mem_nil, or_false] at hT; rcases hT with rfl | rfl; exact E.b_list; exact E.b_bool) | exact fun T hT => by (simp only [List.mem_cons, List.not_mem_nil, or_false] at hT; rcases hT with rfl | rfl; exact E.b_list; exact E.b_int) | exact fun T hT => by (simp only [List.mem_cons, List.not_mem_nil, or_false] at hT; rcases hT with rfl | rfl; exact E.b_list; exact E.b_str) | exact fun T hT => by (simp only [List.mem_cons, List.not_mem_nil, or_false] at hT; rcases hT with rfl | rfl; exact E.b_list; exact E.b_tuple) | exact fun T hT => by (simp only [List.mem_cons, List.not_mem_nil, or_false] at hT; rcases hT with rfl | rfl; exact E.b_str; exact E.b_bool) | exact fun T hT => by (simp only [List.mem_cons, List.not_mem_nil, or_false] at hT; rcases hT with rfl | rfl; exact E.b_str; exact E.b_int) | exact fun T hT => by (simp only [List.mem_cons, List.not_mem_nil, or_false] at hT; rcases hT with rfl | rfl; exact E.b_str; exact E.b_list) | exact fun T hT => by (simp only [List.mem_cons, List.not_mem_nil, or_false] at hT; rcases hT with rfl | rfl; exact E.b_str; exact E.b_tuple) | exact fun T hT => by (simp only [List.mem_cons, List.not_mem_nil, or_false] at hT; rcases hT with rfl | rfl; exact E.b_tuple; exact E.b_bool) | exact fun T hT => by (simp only [List.mem_cons, List.not_mem_nil, or_false] at hT; rcases hT with rfl | rfl; exact E.b_tuple; exact E.b_int) | exact fun T hT => by (simp only [List.mem_cons, List.not_mem_nil, or_false] at hT; rcases hT with rfl | rfl; exact E.b_tuple; exact E.b_list) | exact fun T hT => by (simp only [List.mem_cons, List.not_mem_nil, or_false] at hT; rcases hT with rfl | rfl; exact E.b_tuple; exact E.b_str)
theorem fa__law_aliker2_2 (E : Env K mg) : Fa P w K mg base 3 "_law_alike" (denF f__law_aliker2) 2 [] := by
  obtain ⟨f, fd, h1, h2⟩ := E.d__law_alike
  refine ⟨f, fd, h1, h2.kp, fnG_of h2 sc__law_aliker2 ck__law_aliker2 (nd__law_aliker2 E), ?_⟩
  obtain ⟨oc, od, kV, doc, pm, an, cdv, ct, osl, rfl, lk, hcd⟩ := h2.ex
  exact bd_all fun us hl => match us, hl with | [_, _], _ => rfl
theorem nd__law_aliker3 (E : Env K mg) : NdSs P w K mg base 3 f__law_aliker3.body := by
  have h0 := fa__law_aliker2_2 E (P := P) (w := w) (base := base)
  unfold f__law_aliker3
  repeat' apply And.intro
  all_goals first | exact trivial | assumption | exact h0.mono (by decide) | exact E.b_all | exact E.b_bool | exact E.b_int | exact E.b_isinstance | exact E.b_len | exact E.b_list | exact E.b_range | exact E.b_str | exact E.b_tuple | exact fun T hT => by cases List.mem_singleton.mp hT; exact E.b_bool | exact fun T hT => by cases List.mem_singleton.mp hT; exact E.b_int | exact fun T hT => by cases List.mem_singleton.mp hT; exact E.b_list | exact fun T hT => by cases List.mem_singleton.mp hT; exact E.b_str | exact fun T hT => by cases List.mem_singleton.mp hT; exact E.b_tuple | exact fun T hT => by (simp only [List.mem_cons, List.not_mem_nil, or_false] at hT; rcases hT with rfl | rfl; exact E.b_bool; exact E.b_int) | exact fun T hT => by (simp only [List.mem_cons, List.not_mem_nil, or_false] at hT; rcases hT with rfl | rfl; exact E.b_bool; exact E.b_list) | exact fun T hT => by (simp only [List.mem_cons, List.not_mem_nil, or_false] at hT; rcases hT with rfl | rfl; exact E.b_bool; exact E.b_str) | exact fun T hT => by (simp only [List.mem_cons, List.not_mem_nil, or_false] at hT; rcases hT with rfl | rfl; exact E.b_bool; exact E.b_tuple) | exact fun T hT => by (simp only [List.mem_cons, List.not_mem_nil, or_false] at hT; rcases hT with rfl | rfl; exact E.b_int; exact E.b_bool) | exact fun T hT => by (simp only [List.mem_cons, List.not_mem_nil, or_false] at hT; rcases hT with rfl | rfl; exact E.b_int; exact E.b_list) | exact fun T hT => by (simp only [List.mem_cons, List.not_mem_nil, or_false] at hT; rcases hT with rfl | rfl; exact E.b_int; exact E.b_str) | exact fun T hT => by (simp only [List.mem_cons, List.not_mem_nil, or_false] at hT; rcases hT with rfl | rfl; exact E.b_int; exact E.b_tuple) | exact fun T hT => by (simp only [List.mem_cons, List.not_mem_nil, or_false] at hT; rcases hT with rfl | rfl; exact E.b_list; exact E.b_bool) | exact fun T hT => by (simp only [List.mem_cons, List.not_mem_nil, or_false] at hT; rcases hT with rfl | rfl; exact E.b_list; exact E.b_int) | exact fun T hT => by (simp only [List.mem_cons, List.not_mem_nil, or_false] at hT; rcases hT with rfl | rfl; exact E.b_list; exact E.b_str) | exact fun T hT => by (simp only [List.mem_cons, List.not_mem_nil, or_false] at hT; rcases hT with rfl | rfl; exact E.b_list; exact E.b_tuple) | exact fun T hT => by (simp only [List.mem_cons, List.not_mem_nil, or_false] at hT; rcases hT with rfl | rfl; exact E.b_str; exact E.b_bool) | exact fun T hT => by (simp only [List.mem_cons, List.not_mem_nil, or_false] at hT; rcases hT with rfl | rfl; exact E.b_str; exact E.b_int) | exact fun T hT => by (simp only [List.mem_cons, List.not_mem_nil, or_false] at hT; rcases hT with rfl | rfl; exact E.b_str; exact E.b_list) | exact fun T hT => by (simp only [List.mem_cons, List.not_mem_nil, or_false] at hT; rcases hT with rfl | rfl; exact E.b_str; exact E.b_tuple) | exact fun T hT => by (simp only [List.mem_cons, List.not_mem_nil, or_false] at hT; rcases hT with rfl | rfl; exact E.b_tuple; exact E.b_bool) | exact fun T hT => by (simp only [List.mem_cons, List.not_mem_nil, or_false] at hT; rcases hT with rfl | rfl; exact E.b_tuple; exact E.b_int) | exact fun T hT => by (simp only [List.mem_cons, List.not_mem_nil, or_false] at hT; rcases hT with rfl | rfl; exact E.b_tuple; exact E.b_list) | exact fun T hT => by (simp only [List.mem_cons, List.not_mem_nil, or_false] at hT; rcases hT with rfl | rfl; exact E.b_tuple; exact E.b_str)
theorem fa__law_aliker3_2 (E : Env K mg) : Fa P w K mg base 4 "_law_alike" (denF f__law_aliker3) 2 [] := by
  obtain ⟨f, fd, h1, h2⟩ := E.d__law_alike
  refine ⟨f, fd, h1, h2.kp, fnG_of h2 sc__law_aliker3 ck__law_aliker3 (nd__law_aliker3 E), ?_⟩
  obtain ⟨oc, od, kV, doc, pm, an, cdv, ct, osl, rfl, lk, hcd⟩ := h2.ex
  exact bd_all fun us hl => match us, hl with | [_, _], _ => rfl
theorem nd__law_aliker4 (E : Env K mg) : NdSs P w K mg base 4 f__law_aliker4.body := by
  have h0 := fa__law_aliker3_2 E (P := P) (w := w) (base := base)
  unfold f__law_aliker4
  repeat' apply And.intro
  all_goals first | exact trivial | assumption | exact h0.mono (by decide) | exact E.b_all | exact E.b_bool | exact E.b_int | exact E.b_isinstance | exact E.b_len | exact E.b_list | exact E.b_range | exact E.b_str | exact E.b_tuple | exact fun T hT => by cases List.mem_singleton.mp hT; exact E.b_bool | exact fun T hT => by cases List.mem_singleton.mp hT; exact E.b_int | exact fun T hT => by cases List.mem_singleton.mp hT; exact E.b_list | exact fun T hT => by cases List.mem_singleton.mp hT; exact E.b_str | exact fun T hT => by cases List.mem_singleton.mp hT; exact E.b_tuple | exact fun T hT => by (simp only [List.mem_cons, List.not_mem_nil, or_false] at hT; rcases hT with rfl | rfl; exact E.b_bool; exact E.b_int) | exact fun T hT => by (simp only [List.mem_cons, List.not_mem_nil, or_false] at hT; rcases hT with rfl | rfl; exact E.b_bool; exact E.b_list) | exact fun T hT => by (simp only [List.mem_cons, List.not_mem_nil, or_false] at hT; rcases hT with rfl | rfl; exact E.b_bool; exact E.b_str) | exact fun T hT => by (simp only [List.mem_cons, List.not_mem_nil, or_false] at hT; rcases hT with rfl | rfl; exact E.b_bool; exact E.b_tuple) | exact fun T hT => by (simp only [List.mem_cons, List.not_mem_nil, or_false] at hT; rcases hT with rfl | rfl; exact E.b_int; exact E.b_bool) | exact fun T hT => by (simp only [List.mem_cons, List.not_mem_nil, or_false] at hT; rcases hT with rfl | rfl; exact E.b_int; exact E.b_list) | exact fun T hT => by (simp only [List.mem_cons, List.not_mem_nil, or_false] at hT; rcases hT with rfl | rfl; exact E.b_int; exact E.b_str) | exact fun T hT => by (simp only [List.mem_cons, List.not_mem_nil, or_false] at hT; rcases hT with rfl | rfl; exact E.b_int; exact E.b_tuple) | exact fun T hT => by (simp only [List.mem_cons, List.not_mem_nil, or_false] at hT; rcases hT with rfl | rfl; exact E.b_list; exact E.b_bool) | exact fun T hT => by (simp only [List.mem_cons, List.not_mem_nil, or_false] at hT; rcases hT with rfl | rfl; exact E.b_list; exact E.b_int) | exact fun T hT => by (simp only [List.mem_cons, List.not_mem_nil, or_false] at hT; rcases hT with rfl | rfl; exact E.b_list; exact E.b_str) | exact fun T hT => by (simp only [List.mem_cons, List.not_mem_nil, or_false] at hT; rcases hT with rfl | rfl; exact E.b_list; exact E.b_tuple) | exact fun T hT => by (simp only [List.mem_cons, List.not_mem_nil, or_false] at hT; rcases hT with rfl | rfl; exact E.b_str; exact E.b_bool) | exact fun T hT => by (simp only [List.mem_cons, List.not_mem_nil, or_false] at hT; rcases hT with rfl | rfl; exact E.b_str; exact E.b_int) | exact fun T hT => by (simp only [List.mem_cons, List.not_mem_nil, or_false] at hT; rcases hT with rfl | rfl; exact E.b_str; exact E.b_list) | exact fun T hT => by (simp only [List.mem_cons, List.not_mem_nil, or_false] at hT; rcases hT with rfl | rfl; exact E.b_str; exact E.b_tuple) | exact fun T hT => by (simp only [List.mem_cons, List.not_mem_nil, or_false] at hT; rcases hT with rfl | rfl; exact E.b_tuple; exact E.b_bool) | exact fun T hT => by (simp only [List.mem_cons, List.not_mem_nil, or_false] at hT; rcases hT with rfl | rfl; exact E.b_tuple; exact E.b_int) | exact fun T hT => by (simp only [List.mem_cons, List.not_mem_nil, or_false] at hT; rcases hT with rfl | rfl; exact E.b_tuple; exact E.b_list) | exact fun T hT => by (simp only [List.mem_cons, List.not_mem_nil, or_false] at hT; rcases hT with rfl | rfl; exact E.b_tuple; exact E.b_str)
theorem fa__law_aliker4_2 (E : Env K mg) : Fa P w K mg base 5 "_law_alike" (denF f__law_aliker4) 2 [] := by
  obtain ⟨f, fd, h1, h2⟩ := E.d__law_alike
  refine ⟨f, fd, h1, h2.kp, fnG_of h2 sc__law_aliker4 ck__law_aliker4 (nd__law_aliker4 E), ?_⟩
  obtain ⟨oc, od, kV, doc, pm, an, cdv, ct, osl, rfl, lk, hcd⟩ := h2.ex
  exact bd_all fun us hl => match us, hl with | [_, _], _ => rfl
theorem nd__law_aliker5 (E : Env K mg) : NdSs P w K mg base 5 f__law_aliker5.body := by
  have h0 := fa__law_aliker4_2 E (P := P) (w := w) (base := base)
  unfold f__law_aliker5
  repeat' apply And.intro
  all_goals first | exact trivial | assumption | exact h0.mono (by decide) | exact E.b_all | exact E.b_bool | exact E.b_int | exact E.b_isinstance | exact E.b_len | exact E.b_list | exact E.b_range | exact E.b_str | exact E.b_tuple | exact fun T hT => by cases List.mem_singleton.mp hT; exact E.b_bool | exact fun T hT => by cases List.mem_singleton.mp hT; exact E.b_int | exact fun T hT => by cases List.mem_singleton.mp hT; exact E.b_list | exact fun T hT => by cases List.mem_singleton.mp hT; exact E.b_str | exact fun T hT => by cases List.mem_singleton.mp hT; exact E.b_tuple | exact fun T hT => by (simp only [List.mem_cons, List.not_mem_nil, or_false] at hT; rcases hT with rfl | rfl; exact E.b_bool; exact E.b_int) | exact fun T hT => by (simp only [List.mem_cons, List.not_mem_nil, or_false] at hT; rcases hT with rfl | rfl; exact E.b_bool; exact E.b_list) | exact fun T hT => by (simp only [List.mem_cons, List.not_mem_nil, or_false] at hT; rcases hT with rfl | rfl; exact E.b_bool; exact E.b_str) | exact fun T hT => by (simp only [List.mem_cons, List.not_mem_nil, or_false] at hT; rcases hT with rfl | rfl; exact E.b_bool; exact E.b_tuple) | exact fun T hT => by (simp only [List.mem_cons, List.not_mem_nil, or_false] at hT; rcases hT with rfl | rfl; exact E.b_int; exact E.b_bool) | exact fun T hT => by (simp only [List.mem_cons, List.not_mem_nil, or_false] at hT; rcases hT with rfl | rfl; exact E.b_int; exact E.b_list) | exact fun T hT => by (simp only [List.mem_cons, List.not_mem_nil, or_false] at hT; rcases hT with rfl | rfl; exact E.b_int; exact E.b_str) | exact fun T hT => by (simp only [List.mem_cons, List.not_mem_nil, or_false] at hT; rcases hT with rfl | rfl; exact E.b_int; exact E.b_tuple) | exact fun T hT => by (simp only [List.mem_cons, List.not_mem_nil, or_false] at hT; rcases hT with rfl | rfl; exact E.b_list; exact E.b_bool) | exact fun T hT => by (simp only [List.mem_cons, List.not_mem_nil, or_false] at hT; rcases hT with rfl | rfl; exact E.b_list; exact E.b_int) | exact fun T hT => by (simp only [List.mem_cons, List.not_mem_nil, or_false] at hT; rcases hT with rfl | rfl; exact E.b_list; exact E.b_str) | exact fun T hT => by (simp only [List.mem_cons, List.not_mem_nil, or_false] at hT; rcases hT with rfl | rfl; exact E.b_list; exact E.b_tuple) | exact fun T hT => by (simp only [List.mem_cons, List.not_mem_nil, or_false] at hT; rcases hT with rfl | rfl; exact E.b_str; exact E.b_bool) | exact fun T hT => by (simp only [List.mem_cons, List.not_mem_nil, or_false] at hT; rcases hT with rfl | rfl; exact E.b_str; exact E.b_int) | exact fun T hT => by (simp only [List.mem_cons, List.not_mem_nil, or_false] at hT; rcases hT with rfl | rfl; exact E.b_str; exact E.b_list) | exact fun T hT => by (simp only [List.mem_cons, List.not_mem_nil, or_false] at hT; rcases hT with rfl | rfl; exact E.b_str; exact E.b_tuple) | exact fun T hT => by (simp only [List.mem_cons, List.not_mem_nil, or_false] at hT; rcases hT with rfl | rfl; exact E.b_tuple; exact E.b_bool) | exact fun T hT => by (simp only [List.mem_cons, List.not_mem_nil, or_false] at hT; rcases hT with rfl | rfl; exact E.b_tuple; exact E.b_int) | exact fun T hT => by (simp only [List.mem_cons, List.not_mem_nil, or_false] at hT; rcases hT with rfl | rfl; exact E.b_tuple; exact E.b_list) | exact fun T hT => by (simp only [List.mem_cons, List.not_mem_nil, or_false] at hT; rcases hT with rfl | rfl; exact E.b_tuple; exact E.b_str)
theorem fa__law_aliker5_2 (E : Env K mg) : Fa P w K mg base 6 "_law_alike" (denF f__law_aliker5) 2 [] := by
  obtain ⟨f, fd, h1, h2⟩ := E.d__law_alike
  refine ⟨f, fd, h1, h2.kp, fnG_of h2 sc__law_aliker5 ck__law_aliker5 (nd__law_aliker5 E), ?_⟩
  obtain ⟨oc, od, kV, doc, pm, an, cdv, ct, osl, rfl, lk, hcd⟩ := h2.ex
  exact bd_all fun us hl => match us, hl with | [_, _], _ => rfl
theorem nd__law_alike (E : Env K mg) : NdSs P w K mg base 6 f__law_alike.body := by
  have h0 := fa__law_aliker5_2 E (P := P) (w := w) (base := base)
  unfold f__law_alike
  repeat' apply And.intro
  all_goals first | exact trivial | assumption | exact h0.mono (by decide) | exact E.b_all | exact E.b_bool | exact E.b_int | exact E.b_isinstance | exact E.b_len | exact E.b_list | exact E.b_range | exact E.b_str | exact E.b_tuple | exact fun T hT => by cases List.mem_singleton.mp hT; exact E.b_bool | exact fun T hT => by cases List.mem_singleton.mp hT; exact E.b_int | exact fun T hT => by cases List.mem_singleton.mp hT; exact E.b_list | exact fun T hT => by cases List.mem_singleton.mp hT; exact E.b_str | exact fun T hT => by cases List.mem_singleton.mp hT; exact E.b_tuple | exact fun T hT => by (simp only [List.mem_cons, List.not_mem_nil, or_false] at hT; rcases hT with rfl | rfl; exact E.b_bool; exact E.b_int) | exact fun T hT => by (simp only [List.mem_cons, List.not_mem_nil, or_false] at hT; rcases hT with rfl | rfl; exact E.b_bool; exact E.b_list) | exact fun T hT => by (simp only [List.mem_cons, List.not_mem_nil, or_false] at hT; rcases hT with rfl | rfl; exact E.b_bool; exact E.b_str) | exact fun T hT => by (simp only [List.mem_cons, List.not_mem_nil, or_false] at hT; rcases hT with rfl | rfl; exact E.b_bool; exact E.b_tuple) | exact fun T hT => by (simp only [List.mem_cons, List.not_mem_nil, or_false] at hT; rcases hT with rfl | rfl; exact E.b_int; exact E.b_bool) | exact fun T hT => by (simp only [List.mem_cons, List.not_mem_nil, or_false] at hT; rcases hT with rfl | rfl; exact E.b_int; exact E.b_list) | exact fun T hT => by (simp only [List.mem_cons, List.not_mem_nil, or_false] at hT; rcases hT with rfl | rfl; exact E.b_int; exact E.b_str) | exact fun T hT => by (simp only [List.mem_cons, List.not_mem_nil, or_false] at hT; rcases hT with rfl | rfl; exact E.b_int; exact E.b_tuple) | exact fun T hT => by (simp only [List.mem_cons, List.not_mem_nil, or_false] at hT; rcases hT with rfl | rfl; exact E.b_list; exact E.b_bool) | exact fun T hT => by (simp only [List.mem_cons, List.not_mem_nil, or_false] at hT; rcases hT with rfl | rfl; exact E.b_list; exact E.b_int) | exact fun T hT => by (simp only [List.mem_cons, List.not_mem_nil, or_false] at hT; rcases hT with rfl | rfl; exact E.b_list; exact E.b_str) | exact fun T hT => by (simp only [List.mem_cons, List.not_mem_nil, or_false] at hT; rcases hT with rfl | rfl; exact E.b_list; exact E.b_tuple) | exact fun T hT => by (simp only [List.mem_cons, List.not_mem_nil, or_false] at hT; rcases hT with rfl | rfl; exact E.b_str; exact E.b_bool) | exact fun T hT => by (simp only [List.mem_cons, List.not_mem_nil, or_false] at hT; rcases hT with rfl | rfl; exact E.b_str; exact E.b_int) | exact fun T hT => by (simp only [List.mem_cons, List.not_mem_nil, or_false] at hT; rcases hT with rfl | rfl; exact E.b_str; exact E.b_list) | exact fun T hT => by (simp only [List.mem_cons, List.not_mem_nil, or_false] at hT; rcases hT with rfl | rfl; exact E.b_str; exact E.b_tuple) | exact fun T hT => by (simp only [List.mem_cons, List.not_mem_nil, or_false] at hT; rcases hT with rfl | rfl; exact E.b_tuple; exact E.b_bool) | exact fun T hT => by (simp only [List.mem_cons, List.not_mem_nil, or_false] at hT; rcases hT with rfl | rfl; exact E.b_tuple; exact E.b_int) | exact fun T hT => by (simp only [List.mem_cons, List.not_mem_nil, or_false] at hT; rcases hT with rfl | rfl; exact E.b_tuple; exact E.b_list) | exact fun T hT => by (simp only [List.mem_cons, List.not_mem_nil, or_false] at hT; rcases hT with rfl | rfl; exact E.b_tuple; exact E.b_str)
theorem fa__law_alike_2 (E : Env K mg) : Fa P w K mg base 7 "_law_alike" (denF f__law_alike) 2 [] := by
  obtain ⟨f, fd, h1, h2⟩ := E.d__law_alike
  refine ⟨f, fd, h1, h2.kp, fnG_of h2 sc__law_alike ck__law_alike (nd__law_alike E), ?_⟩
  obtain ⟨oc, od, kV, doc, pm, an, cdv, ct, osl, rfl, lk, hcd⟩ := h2.ex
  exact bd_all fun us hl => match us, hl with | [_, _], _ => rfl
theorem nd_need_pots (E : Env K mg) : NdSs P w K mg base 3 f_need_pots.body := by
  have h0 := fa_is_content_1 E (P := P) (w := w) (base := base)
  unfold f_need_pots
  repeat' apply And.intro
  all_goals first | exact trivial | assumption | exact h0.mono (by decide) | exact E.b_all | exact E.b_isinstance | exact E.b_len | exact E.b_list | exact fun T hT => by cases List.mem_singleton.mp hT; exact E.b_list | exact (let ⟨u, h1, h2⟩ := E.g_MOST_POTS; ⟨_, u, h1, h2, by first | exact .int _ | exact .str _⟩)
theorem fa_need_pots_1 (E : Env K mg) : Fa P w K mg base 4 "need_pots" (denF f_need_pots) 1 [] := by
  obtain ⟨f, fd, h1, h2⟩ := E.d_need_pots
  refine ⟨f, fd, h1, h2.kp, fnG_of h2 sc_need_pots ck_need_pots (nd_need_pots E), ?_⟩
  obtain ⟨oc, od, kV, doc, pm, an, cdv, ct, osl, rfl, lk, hcd⟩ := h2.ex
  exact bd_all fun us hl => match us, hl with | [_], _ => rfl
theorem nd_is_deed (E : Env K mg) : NdSs P w K mg base 2 f_is_deed.body := by
  have h0 := fa_is_cup_1 E (P := P) (w := w) (base := base)
  have h1 := fa_is_integer_1 E (P := P) (w := w) (base := base)
  unfold f_is_deed
  repeat' apply And.intro
  all_goals first | exact trivial | assumption | exact h0.mono (by decide) | exact h1.mono (by decide) | exact E.b_isinstance | exact E.b_len | exact E.b_tuple | exact fun T hT => by cases List.mem_singleton.mp hT; exact E.b_tuple
theorem fa_is_deed_2 (E : Env K mg) : Fa P w K mg base 3 "is_deed" (denF f_is_deed) 2 [] := by
  obtain ⟨f, fd, h1, h2⟩ := E.d_is_deed
  refine ⟨f, fd, h1, h2.kp, fnG_of h2 sc_is_deed ck_is_deed (nd_is_deed E), ?_⟩
  obtain ⟨oc, od, kV, doc, pm, an, cdv, ct, osl, rfl, lk, hcd⟩ := h2.ex
  exact bd_all fun us hl => match us, hl with | [_, _], _ => rfl
theorem nd_cups_row (E : Env K mg) : NdSs P w K mg base 4 f_cups_row.body := by
  have h0 := fa_is_deed_2 E (P := P) (w := w) (base := base)
  have h1 := fa_need_pots_1 E (P := P) (w := w) (base := base)
  have h2 := fa_pot_behind_3 E (P := P) (w := w) (base := base)
  unfold f_cups_row
  repeat' apply And.intro
  all_goals first | exact trivial | assumption | exact h0.mono (by decide) | exact h1.mono (by decide) | exact h2.mono (by decide) | exact E.b_all | exact E.b_isinstance | exact E.b_len | exact E.b_list | exact fun T hT => by cases List.mem_singleton.mp hT; exact E.b_list | exact (let ⟨u, h1, h2⟩ := E.g_MOST_DEEDS; ⟨_, u, h1, h2, by first | exact .int _ | exact .str _⟩)
theorem fa_cups_row_0_deeds_pots (E : Env K mg) : Fa P w K mg base 5 "cups_row" (denF f_cups_row) 0 ["deeds", "pots"] := by
  obtain ⟨f, fd, h1, h2⟩ := E.d_cups_row
  refine ⟨f, fd, h1, h2.kp, fnG_of h2 sc_cups_row ck_cups_row (nd_cups_row E), ?_⟩
  obtain ⟨oc, od, kV, doc, pm, an, cdv, ct, osl, rfl, lk, hcd⟩ := h2.ex
  exact fun s us ws zs _ h1 h2 h3 => match us, ws, h1, h2, h3 with | [], [w0, w1], _, _, h3 => by (cases h3; exact .of_eq (by with_unfolding_all rfl))
theorem fa_cups_row_2 (E : Env K mg) : Fa P w K mg base 5 "cups_row" (denF f_cups_row) 2 [] := by
  obtain ⟨f, fd, h1, h2⟩ := E.d_cups_row
  refine ⟨f, fd, h1, h2.kp, fnG_of h2 sc_cups_row ck_cups_row (nd_cups_row E), ?_⟩
  obtain ⟨oc, od, kV, doc, pm, an, cdv, ct, osl, rfl, lk, hcd⟩ := h2.ex
  exact bd_all fun us hl => match us, hl with | [_, _], _ => rfl
theorem nd__law_row_right (E : Env K mg) : NdSs P w K mg base 7 f__law_row_right.body := by
  have h0 := fa__law_alike_2 E (P := P) (w := w) (base := base)
  have h1 := fa__law_cup_2 E (P := P) (w := w) (base := base)
  have h2 := fa__law_draw_2 E (P := P) (w := w) (base := base)
  have h3 := fa__law_drawn_3 E (P := P) (w := w) (base := base)
  have h4 := fa__law_poured_3 E (P := P) (w := w) (base := base)
  have h5 := fa_cups_row_0_deeds_pots E (P := P) (w := w) (base := base)
  have h6 := fa_cups_row_2 E (P := P) (w := w) (base := base)
  unfold f__law_row_right
  repeat' apply And.intro
  all_goals first | exact trivial | assumption | exact h0.mono (by decide) | exact h1.mono (by decide) | exact h2.mono (by decide) | exact h3.mono (by decide) | exact h4.mono (by decide) | exact h5.mono (by decide) | exact h6.mono (by decide) | exact E.b_int | exact E.b_len | exact E.b_list | exact E.b_range | exact fun T hT => by cases List.mem_singleton.mp hT; exact E.b_int | exact fun T hT => by cases List.mem_singleton.mp hT; exact E.b_list | exact fun T hT => by (simp only [List.mem_cons, List.not_mem_nil, or_false] at hT; rcases hT with rfl | rfl; exact E.b_int; exact E.b_list) | exact fun T hT => by (simp only [List.mem_cons, List.not_mem_nil, or_false] at hT; rcases hT with rfl | rfl; exact E.b_list; exact E.b_int)
theorem fa__law_row_right_3 (E : Env K mg) : Fa P w K mg base 8 "_law_row_right" (denF f__law_row_right) 3 [] := by
  obtain ⟨f, fd, h1, h2⟩ := E.d__law_row_right
  refine ⟨f, fd, h1, h2.kp, fnG_of h2 sc__law_row_right ck__law_row_right (nd__law_row_right E), ?_⟩
  obtain ⟨oc, od, kV, doc, pm, an, cdv, ct, osl, rfl, lk, hcd⟩ := h2.ex
  exact bd_all fun us hl => match us, hl with | [_, _, _], _ => rfl
theorem nd_simplest (E : Env K mg) : NdSs P w K mg base 1 f_simplest.body := by
  have h0 := fa_common_divisor_2 E (P := P) (w := w) (base := base)
  unfold f_simplest
  repeat' apply And.intro
  all_goals first | exact trivial | assumption | exact h0.mono (by decide)
theorem fa_simplest_2 (E : Env K mg) : Fa P w K mg base 2 "simplest" (denF f_simplest) 2 [] := by
  obtain ⟨f, fd, h1, h2⟩ := E.d_simplest
  refine ⟨f, fd, h1, h2.kp, fnG_of h2 sc_simplest ck_simplest (nd_simplest E), ?_⟩
  obtain ⟨oc, od, kV, doc, pm, an, cdv, ct, osl, rfl, lk, hcd⟩ := h2.ex
  exact bd_all fun us hl => match us, hl with | [_, _], _ => rfl
theorem nd_carried (E : Env K mg) : NdSs P w K mg base 3 f_carried.body := by
  have h0 := fa_need_cup_1 E (P := P) (w := w) (base := base)
  have h1 := fa_simplest_2 E (P := P) (w := w) (base := base)
  unfold f_carried
  repeat' apply And.intro
  all_goals first | exact trivial | assumption | exact h0.mono (by decide) | exact h1.mono (by decide)
theorem fa_carried_0_cup (E : Env K mg) : Fa P w K mg base 4 "carried" (denF f_carried) 0 ["cup"] := by
  obtain ⟨f, fd, h1, h2⟩ := E.d_carried
  refine ⟨f, fd, h1, h2.kp, fnG_of h2 sc_carried ck_carried (nd_carried E), ?_⟩
  obtain ⟨oc, od, kV, doc, pm, an, cdv, ct, osl, rfl, lk, hcd⟩ := h2.ex
  exact fun s us ws zs _ h1 h2 h3 => match us, ws, h1, h2, h3 with | [], [w0], _, _, h3 => by (cases h3; exact .of_eq (by with_unfolding_all rfl))
theorem fa_carried_1 (E : Env K mg) : Fa P w K mg base 4 "carried" (denF f_carried) 1 [] := by
  obtain ⟨f, fd, h1, h2⟩ := E.d_carried
  refine ⟨f, fd, h1, h2.kp, fnG_of h2 sc_carried ck_carried (nd_carried E), ?_⟩
  obtain ⟨oc, od, kV, doc, pm, an, cdv, ct, osl, rfl, lk, hcd⟩ := h2.ex
  exact bd_all fun us hl => match us, hl with | [_], _ => rfl
theorem nd__law_equal_right (E : Env K mg) : NdSs P w K mg base 7 f__law_equal_right.body := by
  have h0 := fa__law_alike_2 E (P := P) (w := w) (base := base)
  have h1 := fa_to_and_fro_3 E (P := P) (w := w) (base := base)
  unfold f__law_equal_right
  repeat' apply And.intro
  all_goals first | exact trivial | assumption | exact h0.mono (by decide) | exact h1.mono (by decide)
theorem fa__law_equal_right_0 (E : Env K mg) : Fa P w K mg base 8 "_law_equal_right" (denF f__law_equal_right) 0 [] := by
  obtain ⟨f, fd, h1, h2⟩ := E.d__law_equal_right
  refine ⟨f, fd, h1, h2.kp, fnG_of h2 sc__law_equal_right ck__law_equal_right (nd__law_equal_right E), ?_⟩
  obtain ⟨oc, od, kV, doc, pm, an, cdv, ct, osl, rfl, lk, hcd⟩ := h2.ex
  exact bd_all fun us hl => match us, hl with | [], _ => rfl
theorem nd_law (E : Env K mg) : NdSs P w K mg base 8 f_law.body := by
  have h0 := fa__law_alike_2 E (P := P) (w := w) (base := base)
  have h1 := fa__law_bag_1 E (P := P) (w := w) (base := base)
  have h2 := fa__law_cup_2 E (P := P) (w := w) (base := base)
  have h3 := fa__law_draw_2 E (P := P) (w := w) (base := base)
  have h4 := fa__law_drawn_3 E (P := P) (w := w) (base := base)
  have h5 := fa__law_equal_right_0 E (P := P) (w := w) (base := base)
  have h6 := fa__law_poured_3 E (P := P) (w := w) (base := base)
  have h7 := fa__law_row_right_3 E (P := P) (w := w) (base := base)
  have h8 := fa__law_simple_2 E (P := P) (w := w) (base := base)
  have h9 := fa_carried_0_cup E (P := P) (w := w) (base := base)
  have h10 := fa_carried_1 E (P := P) (w := w) (base := base)
  have h11 := fa_cups_row_2 E (P := P) (w := w) (base := base)
  have h12 := fa_to_and_fro_0_second_first_cup E (P := P) (w := w) (base := base)
  have h13 := fa_to_and_fro_3 E (P := P) (w := w) (base := base)
  unfold f_law
  repeat' apply And.intro
  all_goals first | exact trivial | assumption | exact h0.mono (by decide) | exact h1.mono (by decide) | exact h2.mono (by decide) | exact h3.mono (by decide) | exact h4.mono (by decide) | exact h5.mono (by decide) | exact h6.mono (by decide) | exact h7.mono (by decide) | exact h8.mono (by decide) | exact h9.mono (by decide) | exact h10.mono (by decide) | exact h11.mono (by decide) | exact h12.mono (by decide) | exact h13.mono (by decide) | exact E.b_int | exact E.b_list | exact E.b_range | exact fun T hT => by cases List.mem_singleton.mp hT; exact E.b_int | exact fun T hT => by cases List.mem_singleton.mp hT; exact E.b_list | exact fun T hT => by (simp only [List.mem_cons, List.not_mem_nil, or_false] at hT; rcases hT with rfl | rfl; exact E.b_int; exact E.b_list) | exact fun T hT => by (simp only [List.mem_cons, List.not_mem_nil, or_false] at hT; rcases hT with rfl | rfl; exact E.b_list; exact E.b_int)
end
theorem env_mk {K : PySem.W.Frag} {h : Heap} {mg : Str → Option Value} (X : K.In h) (G : h.Ns mainGlobals mg)
    (b_abs : PySem.W.nsIn K mainGlobals "abs" = some none)
    (b_all : PySem.W.nsIn K mainGlobals "all" = some none)
    (b_bool : PySem.W.nsIn K mainGlobals "bool" = some none)
    (b_int : PySem.W.nsIn K mainGlobals "int" = some none)
    (b_isinstance : PySem.W.nsIn K mainGlobals "isinstance" = some none)
    (b_len : PySem.W.nsIn K mainGlobals "len" = some none)
    (b_list : PySem.W.nsIn K mainGlobals "list" = some none)
    (b_range : PySem.W.nsIn K mainGlobals "range" = some none)
    (b_str : PySem.W.nsIn K mainGlobals "str" = some none)
    (b_sum : PySem.W.nsIn K mainGlobals "sum" = some none)
    (b_tuple : PySem.W.nsIn K mainGlobals "tuple" = some none)
    (b_zip : PySem.W.nsIn K mainGlobals "zip" = some none)
    {v_MOST_CUP : Value} (g_MOST_CUP : PySem.W.nsIn K mainGlobals "MOST_CUP" = some (some v_MOST_CUP)) (r_MOST_CUP : RelV (.int 100) v_MOST_CUP)
    {v_MOST_DEEDS : Value} (g_MOST_DEEDS : PySem.W.nsIn K mainGlobals "MOST_DEEDS" = some (some v_MOST_DEEDS)) (r_MOST_DEEDS : RelV (.int 60) v_MOST_DEEDS)
    {v_MOST_LIQUIDS : Value} (g_MOST_LIQUIDS : PySem.W.nsIn K mainGlobals "MOST_LIQUIDS" = some (some v_MOST_LIQUIDS)) (r_MOST_LIQUIDS : RelV (.int 8) v_MOST_LIQUIDS)
    {v_MOST_POTS : Value} (g_MOST_POTS : PySem.W.nsIn K mainGlobals "MOST_POTS" = some (some v_MOST_POTS)) (r_MOST_POTS : RelV (.int 8) v_MOST_POTS)
    {f__law_bag : Addr} {od__law_bag an__law_bag : Option Addr} {sl__law_bag : Array (Option Value)} {oc__law_bag kV__law_bag dc__law_bag pm__law_bag cd__law_bag ct__law_bag : Value}
    (a__law_bag : PySem.W.nsIn K mainGlobals "_law_bag" = some (some (.ref f__law_bag))) (l__law_bag : K.lookup f__law_bag = some ⟨oc__law_bag, od__law_bag, .func (PySem.W.fnOf "_law_bag" "_law_bag" (defArgs s__law_bag) (defBody s__law_bag) (defScope s__law_bag) .none kV__law_bag dc__law_bag pm__law_bag an__law_bag cd__law_bag ct__law_bag), sl__law_bag⟩) (c__law_bag : PySem.W.codeIn K cd__law_bag "_law_bag" = true) (k__law_bag : PySem.W.keepIn K (.ref f__law_bag) = true)
    {f__law_stirred : Addr} {od__law_stirred an__law_stirred : Option Addr} {sl__law_stirred : Array (Option Value)} {oc__law_stirred kV__law_stirred dc__law_stirred pm__law_stirred cd__law_stirred ct__law_stirred : Value}
    (a__law_stirred : PySem.W.nsIn K mainGlobals "_law_stirred" = some (some (.ref f__law_stirred))) (l__law_stirred : K.lookup f__law_stirred = some ⟨oc__law_stirred, od__law_stirred, .func (PySem.W.fnOf "_law_stirred" "_law_stirred" (defArgs s__law_stirred) (defBody s__law_stirred) (defScope s__law_stirred) .none kV__law_stirred dc__law_stirred pm__law_stirred an__law_stirred cd__law_stirred ct__law_stirred), sl__law_stirred⟩) (c__law_stirred : PySem.W.codeIn K cd__law_stirred "_law_stirred" = true) (k__law_stirred : PySem.W.keepIn K (.ref f__law_stirred) = true)
    {f__law_draw : Addr} {od__law_draw an__law_draw : Option Addr} {sl__law_draw : Array (Option Value)} {oc__law_draw kV__law_draw dc__law_draw pm__law_draw cd__law_draw ct__law_draw : Value}
    (a__law_draw : PySem.W.nsIn K mainGlobals "_law_draw" = some (some (.ref f__law_draw))) (l__law_draw : K.lookup f__law_draw = some ⟨oc__law_draw, od__law_draw, .func (PySem.W.fnOf "_law_draw" "_law_draw" (defArgs s__law_draw) (defBody s__law_draw) (defScope s__law_draw) .none kV__law_draw dc__law_draw pm__law_draw an__law_draw cd__law_draw ct__law_draw), sl__law_draw⟩) (c__law_draw : PySem.W.codeIn K cd__law_draw "_law_draw" = true) (k__law_draw : PySem.W.keepIn K (.ref f__law_draw) = true)
    {f__law_common : Addr} {od__law_common an__law_common : Option Addr} {sl__law_common : Array (Option Value)} {oc__law_common kV__law_common dc__law_common pm__law_common cd__law_common ct__law_common : Value}
    (a__law_common : PySem.W.nsIn K mainGlobals "_law_common" = some (some (.ref f__law_common))) (l__law_common : K.lookup f__law_common = some ⟨oc__law_common, od__law_common, .func (PySem.W.fnOf "_law_common" "_law_common" (defArgs s__law_common) (defBody s__law_common) (defScope s__law_common) .none kV__law_common dc__law_common pm__law_common an__law_common cd__law_common ct__law_common), sl__law_common⟩) (c__law_common : PySem.W.codeIn K cd__law_common "_law_common" = true) (k__law_common : PySem.W.keepIn K (.ref f__law_common) = true)
    {f__law_reduced : Addr} {od__law_reduced an__law_reduced : Option Addr} {sl__law_reduced : Array (Option Value)} {oc__law_reduced kV__law_reduced dc__law_reduced pm__law_reduced cd__law_reduced ct__law_reduced : Value}
    (a__law_reduced : PySem.W.nsIn K mainGlobals "_law_reduced" = some (some (.ref f__law_reduced))) (l__law_reduced : K.lookup f__law_reduced = some ⟨oc__law_reduced, od__law_reduced, .func (PySem.W.fnOf "_law_reduced" "_law_reduced" (defArgs s__law_reduced) (defBody s__law_reduced) (defScope s__law_reduced) .none kV__law_reduced dc__law_reduced pm__law_reduced an__law_reduced cd__law_reduced ct__law_reduced), sl__law_reduced⟩) (c__law_reduced : PySem.W.codeIn K cd__law_reduced "_law_reduced" = true) (k__law_reduced : PySem.W.keepIn K (.ref f__law_reduced) = true)
    {f__law_drawn : Addr} {od__law_drawn an__law_drawn : Option Addr} {sl__law_drawn : Array (Option Value)} {oc__law_drawn kV__law_drawn dc__law_drawn pm__law_drawn cd__law_drawn ct__law_drawn : Value}
    (a__law_drawn : PySem.W.nsIn K mainGlobals "_law_drawn" = some (some (.ref f__law_drawn))) (l__law_drawn : K.lookup f__law_drawn = some ⟨oc__law_drawn, od__law_drawn, .func (PySem.W.fnOf "_law_drawn" "_law_drawn" (defArgs s__law_drawn) (defBody s__law_drawn) (defScope s__law_drawn) .none kV__law_drawn dc__law_drawn pm__law_drawn an__law_drawn cd__law_drawn ct__law_drawn), sl__law_drawn⟩) (c__law_drawn : PySem.W.codeIn K cd__law_drawn "_law_drawn" = true) (k__law_drawn : PySem.W.keepIn K (.ref f__law_drawn) = true)
    {f__law_simple : Addr} {od__law_simple an__law_simple : Option Addr} {sl__law_simple : Array (Option Value)} {oc__law_simple kV__law_simple dc__law_simple pm__law_simple cd__law_simple ct__law_simple : Value}
    (a__law_simple : PySem.W.nsIn K mainGlobals "_law_simple" = some (some (.ref f__law_simple))) (l__law_simple : K.lookup f__law_simple = some ⟨oc__law_simple, od__law_simple, .func (PySem.W.fnOf "_law_simple" "_law_simple" (defArgs s__law_simple) (defBody s__law_simple) (defScope s__law_simple) .none kV__law_simple dc__law_simple pm__law_simple an__law_simple cd__law_simple ct__law_simple), sl__law_simple⟩) (c__law_simple : PySem.W.codeIn K cd__law_simple "_law_simple" = true) (k__law_simple : PySem.W.keepIn K (.ref f__law_simple) = true)
    {f__law_cup : Addr} {od__law_cup an__law_cup : Option Addr} {sl__law_cup : Array (Option Value)} {oc__law_cup kV__law_cup dc__law_cup pm__law_cup cd__law_cup ct__law_cup : Value}
    (a__law_cup : PySem.W.nsIn K mainGlobals "_law_cup" = some (some (.ref f__law_cup))) (l__law_cup : K.lookup f__law_cup = some ⟨oc__law_cup, od__law_cup, .func (PySem.W.fnOf "_law_cup" "_law_cup" (defArgs s__law_cup) (defBody s__law_cup) (defScope s__law_cup) .none kV__law_cup dc__law_cup pm__law_cup an__law_cup cd__law_cup ct__law_cup), sl__law_cup⟩) (c__law_cup : PySem.W.codeIn K cd__law_cup "_law_cup" = true) (k__law_cup : PySem.W.keepIn K (.ref f__law_cup) = true)
    {f__law_poured : Addr} {od__law_poured an__law_poured : Option Addr} {sl__law_poured : Array (Option Value)} {oc__law_poured kV__law_poured dc__law_poured pm__law_poured cd__law_poured ct__law_poured : Value}
    (a__law_poured : PySem.W.nsIn K mainGlobals "_law_poured" = some (some (.ref f__law_poured))) (l__law_poured : K.lookup f__law_poured = some ⟨oc__law_poured, od__law_poured, .func (PySem.W.fnOf "_law_poured" "_law_poured" (defArgs s__law_poured) (defBody s__law_poured) (defScope s__law_poured) .none kV__law_poured dc__law_poured pm__law_poured an__law_poured cd__law_poured ct__law_poured), sl__law_poured⟩) (c__law_poured : PySem.W.codeIn K cd__law_poured "_law_poured" = true) (k__law_poured : PySem.W.keepIn K (.ref f__law_poured) = true)
    {f_is_integer : Addr} {od_is_integer an_is_integer : Option Addr} {sl_is_integer : Array (Option Value)} {oc_is_integer kV_is_integer dc_is_integer pm_is_integer cd_is_integer ct_is_integer : Value}
    (a_is_integer : PySem.W.nsIn K mainGlobals "is_integer" = some (some (.ref f_is_integer))) (l_is_integer : K.lookup f_is_integer = some ⟨oc_is_integer, od_is_integer, .func (PySem.W.fnOf "is_integer" "is_integer" (defArgs s_is_integer) (defBody s_is_integer) (defScope s_is_integer) .none kV_is_integer dc_is_integer pm_is_integer an_is_integer cd_is_integer ct_is_integer), sl_is_integer⟩) (c_is_integer : PySem.W.codeIn K cd_is_integer "is_integer" = true) (k_is_integer : PySem.W.keepIn K (.ref f_is_integer) = true)
    {f_are_parts : Addr} {od_are_parts an_are_parts : Option Addr} {sl_are_parts : Array (Option Value)} {oc_are_parts kV_are_parts dc_are_parts pm_are_parts cd_are_parts ct_are_parts : Value}
    (a_are_parts : PySem.W.nsIn K mainGlobals "are_parts" = some (some (.ref f_are_parts))) (l_are_parts : K.lookup f_are_parts = some ⟨oc_are_parts, od_are_parts, .func (PySem.W.fnOf "are_parts" "are_parts" (defArgs s_are_parts) (defBody s_are_parts) (defScope s_are_parts) .none kV_are_parts dc_are_parts pm_are_parts an_are_parts cd_are_parts ct_are_parts), sl_are_parts⟩) (c_are_parts : PySem.W.codeIn K cd_are_parts "are_parts" = true) (k_are_parts : PySem.W.keepIn K (.ref f_are_parts) = true)
    {f_common_divisor : Addr} {od_common_divisor an_common_divisor : Option Addr} {sl_common_divisor : Array (Option Value)} {oc_common_divisor kV_common_divisor dc_common_divisor pm_common_divisor cd_common_divisor ct_common_divisor : Value}
    (a_common_divisor : PySem.W.nsIn K mainGlobals "common_divisor" = some (some (.ref f_common_divisor))) (l_common_divisor : K.lookup f_common_divisor = some ⟨oc_common_divisor, od_common_divisor, .func (PySem.W.fnOf "common_divisor" "common_divisor" (defArgs s_common_divisor) (defBody s_common_divisor) (defScope s_common_divisor) .none kV_common_divisor dc_common_divisor pm_common_divisor an_common_divisor cd_common_divisor ct_common_divisor), sl_common_divisor⟩) (c_common_divisor : PySem.W.codeIn K cd_common_divisor "common_divisor" = true) (k_common_divisor : PySem.W.keepIn K (.ref f_common_divisor) = true)
    {f_divisor_of : Addr} {od_divisor_of an_divisor_of : Option Addr} {sl_divisor_of : Array (Option Value)} {oc_divisor_of kV_divisor_of dc_divisor_of pm_divisor_of cd_divisor_of ct_divisor_of : Value}
    (a_divisor_of : PySem.W.nsIn K mainGlobals "divisor_of" = some (some (.ref f_divisor_of))) (l_divisor_of : K.lookup f_divisor_of = some ⟨oc_divisor_of, od_divisor_of, .func (PySem.W.fnOf "divisor_of" "divisor_of" (defArgs s_divisor_of) (defBody s_divisor_of) (defScope s_divisor_of) .none kV_divisor_of dc_divisor_of pm_divisor_of an_divisor_of cd_divisor_of ct_divisor_of), sl_divisor_of⟩) (c_divisor_of : PySem.W.codeIn K cd_divisor_of "divisor_of" = true) (k_divisor_of : PySem.W.keepIn K (.ref f_divisor_of) = true)
    {f_is_content : Addr} {od_is_content an_is_content : Option Addr} {sl_is_content : Array (Option Value)} {oc_is_content kV_is_content dc_is_content pm_is_content cd_is_content ct_is_content : Value}
    (a_is_content : PySem.W.nsIn K mainGlobals "is_content" = some (some (.ref f_is_content))) (l_is_content : K.lookup f_is_content = some ⟨oc_is_content, od_is_content, .func (PySem.W.fnOf "is_content" "is_content" (defArgs s_is_content) (defBody s_is_content) (defScope s_is_content) .none kV_is_content dc_is_content pm_is_content an_is_content cd_is_content ct_is_content), sl_is_content⟩) (c_is_content : PySem.W.codeIn K cd_is_content "is_content" = true) (k_is_content : PySem.W.keepIn K (.ref f_is_content) = true)
    {f_need_content : Addr} {od_need_content an_need_content : Option Addr} {sl_need_content : Array (Option Value)} {oc_need_content kV_need_content dc_need_content pm_need_content cd_need_content ct_need_content : Value}
    (a_need_content : PySem.W.nsIn K mainGlobals "need_content" = some (some (.ref f_need_content))) (l_need_content : K.lookup f_need_content = some ⟨oc_need_content, od_need_content, .func (PySem.W.fnOf "need_content" "need_content" (defArgs s_need_content) (defBody s_need_content) (defScope s_need_content) .none kV_need_content dc_need_content pm_need_content an_need_content cd_need_content ct_need_content), sl_need_content⟩) (c_need_content : PySem.W.codeIn K cd_need_content "need_content" = true) (k_need_content : PySem.W.keepIn K (.ref f_need_content) = true)
    {f_need_two_pots : Addr} {od_need_two_pots an_need_two_pots : Option Addr} {sl_need_two_pots : Array (Option Value)} {oc_need_two_pots kV_need_two_pots dc_need_two_pots pm_need_two_pots cd_need_two_pots ct_need_two_pots : Value}
    (a_need_two_pots : PySem.W.nsIn K mainGlobals "need_two_pots" = some (some (.ref f_need_two_pots))) (l_need_two_pots : K.lookup f_need_two_pots = some ⟨oc_need_two_pots, od_need_two_pots, .func (PySem.W.fnOf "need_two_pots" "need_two_pots" (defArgs s_need_two_pots) (defBody s_need_two_pots) (defScope s_need_two_pots) .none kV_need_two_pots dc_need_two_pots pm_need_two_pots an_need_two_pots cd_need_two_pots ct_need_two_pots), sl_need_two_pots⟩) (c_need_two_pots : PySem.W.codeIn K cd_need_two_pots "need_two_pots" = true) (k_need_two_pots : PySem.W.keepIn K (.ref f_need_two_pots) = true)
    {f_is_cup : Addr} {od_is_cup an_is_cup : Option Addr} {sl_is_cup : Array (Option Value)} {oc_is_cup kV_is_cup dc_is_cup pm_is_cup cd_is_cup ct_is_cup : Value}
    (a_is_cup : PySem.W.nsIn K mainGlobals "is_cup" = some (some (.ref f_is_cup))) (l_is_cup : K.lookup f_is_cup = some ⟨oc_is_cup, od_is_cup, .func (PySem.W.fnOf "is_cup" "is_cup" (defArgs s_is_cup) (defBody s_is_cup) (defScope s_is_cup) .none kV_is_cup dc_is_cup pm_is_cup an_is_cup cd_is_cup ct_is_cup), sl_is_cup⟩) (c_is_cup : PySem.W.codeIn K cd_is_cup "is_cup" = true) (k_is_cup : PySem.W.keepIn K (.ref f_is_cup) = true)
    {f_need_cup : Addr} {od_need_cup an_need_cup : Option Addr} {sl_need_cup : Array (Option Value)} {oc_need_cup kV_need_cup dc_need_cup pm_need_cup cd_need_cup ct_need_cup : Value}
    (a_need_cup : PySem.W.nsIn K mainGlobals "need_cup" = some (some (.ref f_need_cup))) (l_need_cup : K.lookup f_need_cup = some ⟨oc_need_cup, od_need_cup, .func (PySem.W.fnOf "need_cup" "need_cup" (defArgs s_need_cup) (defBody s_need_cup) (defScope s_need_cup) .none kV_need_cup dc_need_cup pm_need_cup an_need_cup cd_need_cup ct_need_cup), sl_need_cup⟩) (c_need_cup : PySem.W.codeIn K cd_need_cup "need_cup" = true) (k_need_cup : PySem.W.keepIn K (.ref f_need_cup) = true)
    {f_without_divisor : Addr} {od_without_divisor an_without_divisor : Option Addr} {sl_without_divisor : Array (Option Value)} {oc_without_divisor kV_without_divisor dc_without_divisor pm_without_divisor cd_without_divisor ct_without_divisor : Value}
    (a_without_divisor : PySem.W.nsIn K mainGlobals "without_divisor" = some (some (.ref f_without_divisor))) (l_without_divisor : K.lookup f_without_divisor = some ⟨oc_without_divisor, od_without_divisor, .func (PySem.W.fnOf "without_divisor" "without_divisor" (defArgs s_without_divisor) (defBody s_without_divisor) (defScope s_without_divisor) .none kV_without_divisor dc_without_divisor pm_without_divisor an_without_divisor cd_without_divisor ct_without_divisor), sl_without_divisor⟩) (c_without_divisor : PySem.W.codeIn K cd_without_divisor "without_divisor" = true) (k_without_divisor : PySem.W.keepIn K (.ref f_without_divisor) = true)
    {f_pot_behind : Addr} {od_pot_behind an_pot_behind : Option Addr} {sl_pot_behind : Array (Option Value)} {oc_pot_behind kV_pot_behind dc_pot_behind pm_pot_behind cd_pot_behind ct_pot_behind : Value}
    (a_pot_behind : PySem.W.nsIn K mainGlobals "pot_behind" = some (some (.ref f_pot_behind))) (l_pot_behind : K.lookup f_pot_behind = some ⟨oc_pot_behind, od_pot_behind, .func (PySem.W.fnOf "pot_behind" "pot_behind" (defArgs s_pot_behind) (defBody s_pot_behind) (defScope s_pot_behind) .none kV_pot_behind dc_pot_behind pm_pot_behind an_pot_behind cd_pot_behind ct_pot_behind), sl_pot_behind⟩) (c_pot_behind : PySem.W.codeIn K cd_pot_behind "pot_behind" = true) (k_pot_behind : PySem.W.keepIn K (.ref f_pot_behind) = true)
    {f_to_and_fro : Addr} {od_to_and_fro an_to_and_fro : Option Addr} {sl_to_and_fro : Array (Option Value)} {oc_to_and_fro kV_to_and_fro dc_to_and_fro pm_to_and_fro cd_to_and_fro ct_to_and_fro : Value}
    (a_to_and_fro : PySem.W.nsIn K mainGlobals "to_and_fro" = some (some (.ref f_to_and_fro))) (l_to_and_fro : K.lookup f_to_and_fro = some ⟨oc_to_and_fro, od_to_and_fro, .func (PySem.W.fnOf "to_and_fro" "to_and_fro" (defArgs s_to_and_fro) (defBody s_to_and_fro) (defScope s_to_and_fro) .none kV_to_and_fro dc_to_and_fro pm_to_and_fro an_to_and_fro cd_to_and_fro ct_to_and_fro), sl_to_and_fro⟩) (c_to_and_fro : PySem.W.codeIn K cd_to_and_fro "to_and_fro" = true) (k_to_and_fro : PySem.W.keepIn K (.ref f_to_and_fro) = true)
    {f__law_alike : Addr} {od__law_alike an__law_alike : Option Addr} {sl__law_alike : Array (Option Value)} {oc__law_alike kV__law_alike dc__law_alike pm__law_alike cd__law_alike ct__law_alike : Value}
    (a__law_alike : PySem.W.nsIn K mainGlobals "_law_alike" = some (some (.ref f__law_alike))) (l__law_alike : K.lookup f__law_alike = some ⟨oc__law_alike, od__law_alike, .func (PySem.W.fnOf "_law_alike" "_law_alike" (defArgs s__law_alike) (defBody s__law_alike) (defScope s__law_alike) .none kV__law_alike dc__law_alike pm__law_alike an__law_alike cd__law_alike ct__law_alike), sl__law_alike⟩) (c__law_alike : PySem.W.codeIn K cd__law_alike "_law_alike" = true) (k__law_alike : PySem.W.keepIn K (.ref f__law_alike) = true)
    {f_need_pots : Addr} {od_need_pots an_need_pots : Option Addr} {sl_need_pots : Array (Option Value)} {oc_need_pots kV_need_pots dc_need_pots pm_need_pots cd_need_pots ct_need_pots : Value}
    (a_need_pots : PySem.W.nsIn K mainGlobals "need_pots" = some (some (.ref f_need_pots))) (l_need_pots : K.lookup f_need_pots = some ⟨oc_need_pots, od_need_pots, .func (PySem.W.fnOf "need_pots" "need_pots" (defArgs s_need_pots) (defBody s_need_pots) (defScope s_need_pots) .none kV_need_pots dc_need_pots pm_need_pots an_need_pots cd_need_pots ct_need_pots), sl_need_pots⟩) (c_need_pots : PySem.W.codeIn K cd_need_pots "need_pots" = true) (k_need_pots : PySem.W.keepIn K (.ref f_need_pots) = true)
    {f_is_deed : Addr} {od_is_deed an_is_deed : Option Addr} {sl_is_deed : Array (Option Value)} {oc_is_deed kV_is_deed dc_is_deed pm_is_deed cd_is_deed ct_is_deed : Value}
    (a_is_deed : PySem.W.nsIn K mainGlobals "is_deed" = some (some (.ref f_is_deed))) (l_is_deed : K.lookup f_is_deed = some ⟨oc_is_deed, od_is_deed, .func (PySem.W.fnOf "is_deed" "is_deed" (defArgs s_is_deed) (defBody s_is_deed) (defScope s_is_deed) .none kV_is_deed dc_is_deed pm_is_deed an_is_deed cd_is_deed ct_is_deed), sl_is_deed⟩) (c_is_deed : PySem.W.codeIn K cd_is_deed "is_deed" = true) (k_is_deed : PySem.W.keepIn K (.ref f_is_deed) = true)
    {f_cups_row : Addr} {od_cups_row an_cups_row : Option Addr} {sl_cups_row : Array (Option Value)} {oc_cups_row kV_cups_row dc_cups_row pm_cups_row cd_cups_row ct_cups_row : Value}
    (a_cups_row : PySem.W.nsIn K mainGlobals "cups_row" = some (some (.ref f_cups_row))) (l_cups_row : K.lookup f_cups_row = some ⟨oc_cups_row, od_cups_row, .func (PySem.W.fnOf "cups_row" "cups_row" (defArgs s_cups_row) (defBody s_cups_row) (defScope s_cups_row) .none kV_cups_row dc_cups_row pm_cups_row an_cups_row cd_cups_row ct_cups_row), sl_cups_row⟩) (c_cups_row : PySem.W.codeIn K cd_cups_row "cups_row" = true) (k_cups_row : PySem.W.keepIn K (.ref f_cups_row) = true)
    {f__law_row_right : Addr} {od__law_row_right an__law_row_right : Option Addr} {sl__law_row_right : Array (Option Value)} {oc__law_row_right kV__law_row_right dc__law_row_right pm__law_row_right cd__law_row_right ct__law_row_right : Value}
    (a__law_row_right : PySem.W.nsIn K mainGlobals "_law_row_right" = some (some (.ref f__law_row_right))) (l__law_row_right : K.lookup f__law_row_right = some ⟨oc__law_row_right, od__law_row_right, .func (PySem.W.fnOf "_law_row_right" "_law_row_right" (defArgs s__law_row_right) (defBody s__law_row_right) (defScope s__law_row_right) .none kV__law_row_right dc__law_row_right pm__law_row_right an__law_row_right cd__law_row_right ct__law_row_right), sl__law_row_right⟩) (c__law_row_right : PySem.W.codeIn K cd__law_row_right "_law_row_right" = true) (k__law_row_right : PySem.W.keepIn K (.ref f__law_row_right) = true)
    {f_simplest : Addr} {od_simplest an_simplest : Option Addr} {sl_simplest : Array (Option Value)} {oc_simplest kV_simplest dc_simplest pm_simplest cd_simplest ct_simplest : Value}
    (a_simplest : PySem.W.nsIn K mainGlobals "simplest" = some (some (.ref f_simplest))) (l_simplest : K.lookup f_simplest = some ⟨oc_simplest, od_simplest, .func (PySem.W.fnOf "simplest" "simplest" (defArgs s_simplest) (defBody s_simplest) (defScope s_simplest) .none kV_simplest dc_simplest pm_simplest an_simplest cd_simplest ct_simplest), sl_simplest⟩) (c_simplest : PySem.W.codeIn K cd_simplest "simplest" = true) (k_simplest : PySem.W.keepIn K (.ref f_simplest) = true)
    {f_carried : Addr} {od_carried an_carried : Option Addr} {sl_carried : Array (Option Value)} {oc_carried kV_carried dc_carried pm_carried cd_carried ct_carried : Value}
    (a_carried : PySem.W.nsIn K mainGlobals "carried" = some (some (.ref f_carried))) (l_carried : K.lookup f_carried = some ⟨oc_carried, od_carried, .func (PySem.W.fnOf "carried" "carried" (defArgs s_carried) (defBody s_carried) (defScope s_carried) .none kV_carried dc_carried pm_carried an_carried cd_carried ct_carried), sl_carried⟩) (c_carried : PySem.W.codeIn K cd_carried "carried" = true) (k_carried : PySem.W.keepIn K (.ref f_carried) = true)
    {f__law_equal_right : Addr} {od__law_equal_right an__law_equal_right : Option Addr} {sl__law_equal_right : Array (Option Value)} {oc__law_equal_right kV__law_equal_right dc__law_equal_right pm__law_equal_right cd__law_equal_right ct__law_equal_right : Value}
    (a__law_equal_right : PySem.W.nsIn K mainGlobals "_law_equal_right" = some (some (.ref f__law_equal_right))) (l__law_equal_right : K.lookup f__law_equal_right = some ⟨oc__law_equal_right, od__law_equal_right, .func (PySem.W.fnOf "_law_equal_right" "_law_equal_right" (defArgs s__law_equal_right) (defBody s__law_equal_right) (defScope s__law_equal_right) .none kV__law_equal_right dc__law_equal_right pm__law_equal_right an__law_equal_right cd__law_equal_right ct__law_equal_right), sl__law_equal_right⟩) (c__law_equal_right : PySem.W.codeIn K cd__law_equal_right "_law_equal_right" = true) (k__law_equal_right : PySem.W.keepIn K (.ref f__law_equal_right) = true)
    {f_law : Addr} {od_law an_law : Option Addr} {sl_law : Array (Option Value)} {oc_law kV_law dc_law pm_law cd_law ct_law : Value}
    (a_law : PySem.W.nsIn K mainGlobals "law" = some (some (.ref f_law))) (l_law : K.lookup f_law = some ⟨oc_law, od_law, .func (PySem.W.fnOf "law" "law" (defArgs s_law) (defBody s_law) (defScope s_law) .none kV_law dc_law pm_law an_law cd_law ct_law), sl_law⟩) (c_law : PySem.W.codeIn K cd_law "law" = true) (k_law : PySem.W.keepIn K (.ref f_law) = true)
    : Env K mg := by
  constructor
  · exact PySem.W.mg_none_of X G b_abs
  · exact PySem.W.mg_none_of X G b_all
  · exact PySem.W.mg_none_of X G b_bool
  · exact PySem.W.mg_none_of X G b_int
  · exact PySem.W.mg_none_of X G b_isinstance
  · exact PySem.W.mg_none_of X G b_len
  · exact PySem.W.mg_none_of X G b_list
  · exact PySem.W.mg_none_of X G b_range
  · exact PySem.W.mg_none_of X G b_str
  · exact PySem.W.mg_none_of X G b_sum
  · exact PySem.W.mg_none_of X G b_tuple
  · exact PySem.W.mg_none_of X G b_zip
  · exact ⟨_, PySem.W.mg_of X G g_MOST_CUP, r_MOST_CUP⟩
  · exact ⟨_, PySem.W.mg_of X G g_MOST_DEEDS, r_MOST_DEEDS⟩
  · exact ⟨_, PySem.W.mg_of X G g_MOST_LIQUIDS, r_MOST_LIQUIDS⟩
  · exact ⟨_, PySem.W.mg_of X G g_MOST_POTS, r_MOST_POTS⟩
  · exact ⟨_, _, PySem.W.mg_of X G a__law_bag, L2.fun_mk (st := s__law_bag) l__law_bag c__law_bag k__law_bag⟩
  · exact ⟨_, _, PySem.W.mg_of X G a__law_stirred, L2.fun_mk (st := s__law_stirred) l__law_stirred c__law_stirred k__law_stirred⟩
  · exact ⟨_, _, PySem.W.mg_of X G a__law_draw, L2.fun_mk (st := s__law_draw) l__law_draw c__law_draw k__law_draw⟩
  · exact ⟨_, _, PySem.W.mg_of X G a__law_common, L2.fun_mk (st := s__law_common) l__law_common c__law_common k__law_common⟩
  · exact ⟨_, _, PySem.W.mg_of X G a__law_reduced, L2.fun_mk (st := s__law_reduced) l__law_reduced c__law_reduced k__law_reduced⟩
  · exact ⟨_, _, PySem.W.mg_of X G a__law_drawn, L2.fun_mk (st := s__law_drawn) l__law_drawn c__law_drawn k__law_drawn⟩
  · exact ⟨_, _, PySem.W.mg_of X G a__law_simple, L2.fun_mk (st := s__law_simple) l__law_simple c__law_simple k__law_simple⟩
  · exact ⟨_, _, PySem.W.mg_of X G a__law_cup, L2.fun_mk (st := s__law_cup) l__law_cup c__law_cup k__law_cup⟩
  · exact ⟨_, _, PySem.W.mg_of X G a__law_poured, L2.fun_mk (st := s__law_poured) l__law_poured c__law_poured k__law_poured⟩
  · exact ⟨_, _, PySem.W.mg_of X G a_is_integer, L2.fun_mk (st := s_is_integer) l_is_integer c_is_integer k_is_integer⟩
  · exact ⟨_, _, PySem.W.mg_of X G a_are_parts, L2.fun_mk (st := s_are_parts) l_are_parts c_are_parts k_are_parts⟩
  · exact ⟨_, _, PySem.W.mg_of X G a_common_divisor, L2.fun_mk (st := s_common_divisor) l_common_divisor c_common_divisor k_common_divisor⟩
  · exact ⟨_, _, PySem.W.mg_of X G a_divisor_of, L2.fun_mk (st := s_divisor_of) l_divisor_of c_divisor_of k_divisor_of⟩
  · exact ⟨_, _, PySem.W.mg_of X G a_is_content, L2.fun_mk (st := s_is_content) l_is_content c_is_content k_is_content⟩
  · exact ⟨_, _, PySem.W.mg_of X G a_need_content, L2.fun_mk (st := s_need_content) l_need_content c_need_content k_need_content⟩
  · exact ⟨_, _, PySem.W.mg_of X G a_need_two_pots, L2.fun_mk (st := s_need_two_pots) l_need_two_pots c_need_two_pots k_need_two_pots⟩
  · exact ⟨_, _, PySem.W.mg_of X G a_is_cup, L2.fun_mk (st := s_is_cup) l_is_cup c_is_cup k_is_cup⟩
  · exact ⟨_, _, PySem.W.mg_of X G a_need_cup, L2.fun_mk (st := s_need_cup) l_need_cup c_need_cup k_need_cup⟩
  · exact ⟨_, _, PySem.W.mg_of X G a_without_divisor, L2.fun_mk (st := s_without_divisor) l_without_divisor c_without_divisor k_without_divisor⟩
  · exact ⟨_, _, PySem.W.mg_of X G a_pot_behind, L2.fun_mk (st := s_pot_behind) l_pot_behind c_pot_behind k_pot_behind⟩
  · exact ⟨_, _, PySem.W.mg_of X G a_to_and_fro, L2.fun_mk (st := s_to_and_fro) l_to_and_fro c_to_and_fro k_to_and_fro⟩
  · exact ⟨_, _, PySem.W.mg_of X G a__law_alike, L2.fun_mk (st := s__law_alike) l__law_alike c__law_alike k__law_alike⟩
  · exact ⟨_, _, PySem.W.mg_of X G a_need_pots, L2.fun_mk (st := s_need_pots) l_need_pots c_need_pots k_need_pots⟩
  · exact ⟨_, _, PySem.W.mg_of X G a_is_deed, L2.fun_mk (st := s_is_deed) l_is_deed c_is_deed k_is_deed⟩
  · exact ⟨_, _, PySem.W.mg_of X G a_cups_row, L2.fun_mk (st := s_cups_row) l_cups_row c_cups_row k_cups_row⟩
  · exact ⟨_, _, PySem.W.mg_of X G a__law_row_right, L2.fun_mk (st := s__law_row_right) l__law_row_right c__law_row_right k__law_row_right⟩
  · exact ⟨_, _, PySem.W.mg_of X G a_simplest, L2.fun_mk (st := s_simplest) l_simplest c_simplest k_simplest⟩
  · exact ⟨_, _, PySem.W.mg_of X G a_carried, L2.fun_mk (st := s_carried) l_carried c_carried k_carried⟩
  · exact ⟨_, _, PySem.W.mg_of X G a__law_equal_right, L2.fun_mk (st := s__law_equal_right) l__law_equal_right c__law_equal_right k__law_equal_right⟩
  · exact ⟨_, _, PySem.W.mg_of X G a_law, L2.fun_mk (st := s_law) l_law c_law k_law⟩
theorem walk {l : PySem.W.OpenLaw} {q : Program} {loose : List Str} {XP : (Str → Option Value) → Heap → Prop} {YP : World → Heap → Prop} {d : DefRec} {K : Params → PySem.W.Frag} (hn : l.most = some 63) (hdf : d.params.defaults = []) (hd : d.name = "law") (says : Says (denF f_law) 63)
    (hY : ∀ (w : World) (h : Heap), YP w h → (K w.params).In h) (E : ∀ (w : World) (mg : Str → Option Value) (h : Heap), (K w.params).In h → h.Ns mainGlobals mg → Env (K w.params) mg) :
    PySem.W.WalkO q loose XP YP l.row.toRowW d [] (fun f vs => PySem.call f vs) :=
  walkG (n := 63) (k := 9) (x := "script") (g := denF f_law) hn (by decide) hdf ⟨rfl, by decide, by decide⟩ hY rfl says fun w mg fa h KX G hm => by
    have E := E w mg h KX G
    obtain ⟨f, fd, h1, h2⟩ := E.d_law
    rw [hd, h1] at hm
    cases hm
    refine ⟨fd, fun s u => ?_, fun base _ _ => fnG_of h2 sc_law ck_law (nd_law E)⟩
    obtain ⟨oc, od, kV, doc, pm, an, cdv, ct, osl, rfl, lk, hcd⟩ := h2.ex
    exact .of_eq rfl
end Law

open PySem PySem.W PyProof.Rows in
set_option maxRecDepth 100000 in
set_option maxHeartbeats 0 in
theorem PySem.Challenge.cw_topups_k48_cups_to_and_fro_holds : PySem.Challenge.rw_topups_k48_cups_to_and_fro.Holds := by
  w_on; o_law; k_head; (case hw => w_witness2)
  k_fill
  refine Law.walk (l := PySem.Challenge.rw_topups_k48_cups_to_and_fro) rfl rfl rfl Law.says (fun w h Y => PySem.W.kIn_of Y) ?E
  case E =>
    intro w mg h KX G
    refine' Law.env_mk KX G ?b_abs ?b_all ?b_bool ?b_int ?b_isinstance ?b_len ?b_list ?b_range ?b_str ?b_sum ?b_tuple ?b_zip ?g_MOST_CUP ?r_MOST_CUP ?g_MOST_DEEDS ?r_MOST_DEEDS ?g_MOST_LIQUIDS ?r_MOST_LIQUIDS ?g_MOST_POTS ?r_MOST_POTS ?a__law_bag ?l__law_bag ?c__law_bag ?k__law_bag ?a__law_stirred ?l__law_stirred ?c__law_stirred ?k__law_stirred ?a__law_draw ?l__law_draw ?c__law_draw ?k__law_draw ?a__law_common ?l__law_common ?c__law_common ?k__law_common ?a__law_reduced ?l__law_reduced ?c__law_reduced ?k__law_reduced ?a__law_drawn ?l__law_drawn ?c__law_drawn ?k__law_drawn ?a__law_simple ?l__law_simple ?c__law_simple ?k__law_simple ?a__law_cup ?l__law_cup ?c__law_cup ?k__law_cup ?a__law_poured ?l__law_poured ?c__law_poured ?k__law_poured ?a_is_integer ?l_is_integer ?c_is_integer ?k_is_integer ?a_are_parts ?l_are_parts ?c_are_parts ?k_are_parts ?a_common_divisor ?l_common_divisor ?c_common_divisor ?k_common_divisor ?a_divisor_of ?l_divisor_of ?c_divisor_of ?k_divisor_of ?a_is_content ?l_is_content ?c_is_content ?k_is_content ?a_need_content ?l_need_content ?c_need_content ?k_need_content ?a_need_two_pots ?l_need_two_pots ?c_need_two_pots ?k_need_two_pots ?a_is_cup ?l_is_cup ?c_is_cup ?k_is_cup ?a_need_cup ?l_need_cup ?c_need_cup ?k_need_cup ?a_without_divisor ?l_without_divisor ?c_without_divisor ?k_without_divisor ?a_pot_behind ?l_pot_behind ?c_pot_behind ?k_pot_behind ?a_to_and_fro ?l_to_and_fro ?c_to_and_fro ?k_to_and_fro ?a__law_alike ?l__law_alike ?c__law_alike ?k__law_alike ?a_need_pots ?l_need_pots ?c_need_pots ?k_need_pots ?a_is_deed ?l_is_deed ?c_is_deed ?k_is_deed ?a_cups_row ?l_cups_row ?c_cups_row ?k_cups_row ?a__law_row_right ?l__law_row_right ?c__law_row_right ?k__law_row_right ?a_simplest ?l_simplest ?c_simplest ?k_simplest ?a_carried ?l_carried ?c_carried ?k_carried ?a__law_equal_right ?l__law_equal_right ?c__law_equal_right ?k__law_equal_right ?a_law ?l_law ?c_law ?k_law
    (case b_abs => k_is)
    (case b_all => k_is)
    (case b_bool => k_is)
    (case b_int => k_is)
    (case b_isinstance => k_is)
    (case b_len => k_is)
    (case b_list => k_is)
    (case b_range => k_is)
    (case b_str => k_is)
    (case b_sum => k_is)
    (case b_tuple => k_is)
    (case b_zip => k_is)
    (case g_MOST_CUP => k_is)
    (case r_MOST_CUP => exact ⟨_, rfl⟩)
    (case g_MOST_DEEDS => k_is)
    (case r_MOST_DEEDS => exact ⟨_, rfl⟩)
    (case g_MOST_LIQUIDS => k_is)
    (case r_MOST_LIQUIDS => exact ⟨_, rfl⟩)
    (case g_MOST_POTS => k_is)
    (case r_MOST_POTS => exact ⟨_, rfl⟩)
    (case a__law_bag => k_is)
    (case l__law_bag => k_is)
    (case c__law_bag => k_is)
    (case k__law_bag => k_is)
    (case a__law_stirred => k_is)
    (case l__law_stirred => k_is)
    (case c__law_stirred => k_is)
    (case k__law_stirred => k_is)
    (case a__law_draw => k_is)
    (case l__law_draw => k_is)
    (case c__law_draw => k_is)
    (case k__law_draw => k_is)
    (case a__law_common => k_is)
    (case l__law_common => k_is)
    (case c__law_common => k_is)
    (case k__law_common => k_is)
    (case a__law_reduced => k_is)
    (case l__law_reduced => k_is)
    (case c__law_reduced => k_is)
    (case k__law_reduced => k_is)
    (case a__law_drawn => k_is)
    (case l__law_drawn => k_is)
    (case c__law_drawn => k_is)
    (case k__law_drawn => k_is)
    (case a__law_simple => k_is)
    (case l__law_simple => k_is)
    (case c__law_simple => k_is)
    (case k__law_simple => k_is)
    (case a__law_cup => k_is)
    (case l__law_cup => k_is)
    (case c__law_cup => k_is)
    (case k__law_cup => k_is)
    (case a__law_poured => k_is)
    (case l__law_poured => k_is)
    (case c__law_poured => k_is)
    (case k__law_poured => k_is)
    (case a_is_integer => k_is)
    (case l_is_integer => k_is)
    (case c_is_integer => k_is)
    (case k_is_integer => k_is)
    (case a_are_parts => k_is)
    (case l_are_parts => k_is)
    (case c_are_parts => k_is)
    (case k_are_parts => k_is)
    (case a_common_divisor => k_is)
    (case l_common_divisor => k_is)
    (case c_common_divisor => k_is)
    (case k_common_divisor => k_is)
    (case a_divisor_of => k_is)
    (case l_divisor_of => k_is)
    (case c_divisor_of => k_is)
    (case k_divisor_of => k_is)
    (case a_is_content => k_is)
    (case l_is_content => k_is)
    (case c_is_content => k_is)
    (case k_is_content => k_is)
    (case a_need_content => k_is)
    (case l_need_content => k_is)
    (case c_need_content => k_is)
    (case k_need_content => k_is)
    (case a_need_two_pots => k_is)
    (case l_need_two_pots => k_is)
    (case c_need_two_pots => k_is)
    (case k_need_two_pots => k_is)
    (case a_is_cup => k_is)
    (case l_is_cup => k_is)
    (case c_is_cup => k_is)
    (case k_is_cup => k_is)
    (case a_need_cup => k_is)
    (case l_need_cup => k_is)
    (case c_need_cup => k_is)
    (case k_need_cup => k_is)
    (case a_without_divisor => k_is)
    (case l_without_divisor => k_is)
    (case c_without_divisor => k_is)
    (case k_without_divisor => k_is)
    (case a_pot_behind => k_is)
    (case l_pot_behind => k_is)
    (case c_pot_behind => k_is)
    (case k_pot_behind => k_is)
    (case a_to_and_fro => k_is)
    (case l_to_and_fro => k_is)
    (case c_to_and_fro => k_is)
    (case k_to_and_fro => k_is)
    (case a__law_alike => k_is)
    (case l__law_alike => k_is)
    (case c__law_alike => k_is)
    (case k__law_alike => k_is)
    (case a_need_pots => k_is)
    (case l_need_pots => k_is)
    (case c_need_pots => k_is)
    (case k_need_pots => k_is)
    (case a_is_deed => k_is)
    (case l_is_deed => k_is)
    (case c_is_deed => k_is)
    (case k_is_deed => k_is)
    (case a_cups_row => k_is)
    (case l_cups_row => k_is)
    (case c_cups_row => k_is)
    (case k_cups_row => k_is)
    (case a__law_row_right => k_is)
    (case l__law_row_right => k_is)
    (case c__law_row_right => k_is)
    (case k__law_row_right => k_is)
    (case a_simplest => k_is)
    (case l_simplest => k_is)
    (case c_simplest => k_is)
    (case k_simplest => k_is)
    (case a_carried => k_is)
    (case l_carried => k_is)
    (case c_carried => k_is)
    (case k_carried => k_is)
    (case a__law_equal_right => k_is)
    (case l__law_equal_right => k_is)
    (case c__law_equal_right => k_is)
    (case k__law_equal_right => k_is)
    (case a_law => k_is)
    (case l_law => k_is)
    (case c_law => k_is)
    (case k_law => k_is)
#print axioms PySem.Challenge.cw_topups_k48_cups_to_and_fro_holds
