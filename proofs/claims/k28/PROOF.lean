import PyProof.Rows.All
import Wide.All
import OpenK.AllK
import Wide.FinOn
import HandS.ForMost
import HandS.More
import HandS.Style
import HandS.Deep
import HandS.Flow
import HandS.TupLe
import HandS.TupAny
import HandS.Wide
import HandS.ForExc
import HandS.Comp
import HandS.Iter
import HandS.Zip
import HandS.Rev
import HandS.Defaults
import HandS.AnyAll
import HandS.ExcOwn
import HandS.TryOnly
import HandS.WordsExc
import HandS.IsInst
import HandS.SortInts
import HandS.GenList
import HandS.GenOver
import HandS.SetFor
import HandS.SortKw
import HandS.Strs
import HandS.TupSets
import KE.GoesMore
import KE.GoesEnum
import HandS.ExcIs
import HandS.Small
import HandS.StrMore
import KE.DataFind
import HandS.HeadHook2
import HandS.HeadWalk
import HandS.Head0
import HandS.Head1
import HandS.Head2
import HandS.HeadEnd
import PySem.Challenge.RW_leaguestold_k28_odds_of_bookmakers
import HandS.Codes
set_option Elab.async false
set_option linter.all false
set_option maxRecDepth 100000
set_option maxHeartbeats 0
/-! N0: own small words, values, and what a def computes, with no heap. -/
namespace N
open PySem

abbrev D := PyData
/-- a list or dict that is still being changed -/
inductive Mu where
  | d (x : D)
  | l (xs : List Mu)
  | k (t : Bool) (kvs : List (D × Mu))
inductive Slot where
  | u
  | d (x : D)
  | m (p : Bool) (x : Mu)
abbrev En := List Slot
/-- an argument, an answer -/
inductive AV where
  | d (x : D)
  | m (x : Mu)
inductive Res (α : Type) where
  | ok (a : α)
  | exc (c : Str)
  | bad
def Res.bind {α β : Type} : Res α → (α → Res β) → Res β
  | .ok a, f => f a
  | .exc c, _ => .exc c
  | .bad, _ => .bad
@[simp] theorem ok_bind {α β : Type} (a : α) (f : α → Res β) : (Res.ok a).bind f = f a := rfl
@[simp] theorem exc_bind {α β : Type} (c : Str) (f : α → Res β) : (Res.exc c : Res α).bind f = .exc c := rfl
@[simp] theorem bad_bind {α β : Type} (f : α → Res β) : (Res.bad : Res α).bind f = .bad := rfl
def ofO {α : Type} : Option α → Res α
  | some a => .ok a
  | none => .bad
@[simp] theorem ofO_some {α : Type} (a : α) : ofO (some a) = .ok a := rfl
@[simp] theorem ofO_none {α : Type} : ofO (none : Option α) = .bad := rfl
/-- where no exception may pass -/
def Res.still {α : Type} : Res α → Res α
  | .ok a => .ok a
  | _ => .bad
theorem still_ok {α : Type} {r : Res α} {a : α} (h : r.still = .ok a) : r = .ok a := by
  cases r with
  | ok b => exact h
  | exc c => cases h
  | bad => cases h
theorem bind_ok {α β : Type} {x : Res α} {f : α → Res β} {b : β} (h : x.bind f = .ok b) : ∃ a, x = .ok a ∧ f a = .ok b := by
  cases x with
  | ok a => exact ⟨a, rfl, h⟩
  | exc c => cases h
  | bad => cases h

/-! ### owned trees -/
mutual
def Mu.toD : Mu → D
  | .d x => x
  | .l xs => .list (Mu.toDs xs)
  | .k _ kvs => .dict (Mu.toDk kvs)
def Mu.toDs : List Mu → List D
  | [] => []
  | x :: xs => x.toD :: Mu.toDs xs
def Mu.toDk : List (D × Mu) → List (D × D)
  | [] => []
  | p :: xs => (p.1, p.2.toD) :: Mu.toDk xs
end
theorem Mu.toDs_map (xs : List D) : Mu.toDs (xs.map Mu.d) = xs := by
  induction xs with
  | nil => rfl
  | cons x xs ih => simp [Mu.toDs, Mu.toD, ih]
theorem Mu.toDs_append (xs ys : List Mu) : Mu.toDs (xs ++ ys) = Mu.toDs xs ++ Mu.toDs ys := by
  induction xs with
  | nil => rfl
  | cons x xs ih => simp [Mu.toDs, ih]
theorem Mu.toDs_length (xs : List Mu) : (Mu.toDs xs).length = xs.length := by
  induction xs with
  | nil => rfl
  | cons x xs ih => simp [Mu.toDs, ih]

/-! ### values -/
inductive BOp where
  | add | sub | mul | fdiv | mod | pow
  deriving DecidableEq
inductive COp where
  | eq | ne | lt | le | gt | ge | isin | notin | is | isnot
  deriving DecidableEq
abbrev LINE : Nat := 16777216
def b2 (b : Bool) : Int := if b then 1 else 0
/-- within bounds, told so that the kernel is stuck at once where the number is not known -/
def inB (k : Nat) : Int → Bool
  | .ofNat n => Nat.ble n k
  | .negSucc n => Nat.ble n k
theorem inB_of {k : Nat} {i : Int} (h : inB k i = true) : -(k : Int) - 1 ≤ i ∧ i ≤ k := by
  cases i with
  | ofNat n =>
    have := Nat.le_of_ble_eq_true h
    show -(k : Int) - 1 ≤ (n : Int) ∧ (n : Int) ≤ k
    omega
  | negSucc n =>
    have := Nat.le_of_ble_eq_true h
    omega
theorem inB_ok {k : Nat} {i : Int} (h : -(k : Int) - 1 ≤ i) (h1 : i ≤ k) : inB k i = true := by
  cases i with
  | ofNat n =>
    refine Nat.ble_eq_true_of_le ?_
    have : (n : Int) ≤ k := h1
    omega
  | negSucc n =>
    refine Nat.ble_eq_true_of_le ?_
    omega
def mulOk (a b : Int) : Bool := inB 18446744073709551614 a || (inB 18446744073709551614 b || decide (a.natAbs.log2 + b.natAbs.log2 < 1000000))
def divOk (b : Int) : Bool := decide (b ≠ 0) && (inB 1073741822 b || (decide (0 < b) && decide (b.natAbs.log2 < 9000)))
def trD : D → Option Bool
  | .none => some false
  | .bool b => some b
  | .int i => some (i != 0)
  | .str s => if s.length ≤ LINE then some ((s.length : Int) != 0) else none
  | .list xs => some (!xs.isEmpty)
  | .tuple xs => some (!xs.isEmpty)
  | .dict _ => none
def addD : D → D → Option D
  | .int a, .int b => some (.int (a + b))
  | .int a, .bool b => some (.int (a + b2 b))
  | .bool a, .int b => some (.int (b2 a + b))
  | .bool a, .bool b => some (.int (b2 a + b2 b))
  | .str a, .str b => if a.length + b.length ≤ LINE then some (.str (a ++ b)) else none
  | .list a, .list b => if a.length + b.length ≤ LINE then some (.list (a ++ b)) else none
  | .tuple a, .tuple b => if a.length + b.length ≤ LINE then some (.tuple (a ++ b)) else none
  | _, _ => none
def subD : D → D → Option D
  | .int a, .int b => some (.int (a - b))
  | .int a, .bool b => some (.int (a - b2 b))
  | .bool a, .int b => some (.int (b2 a - b))
  | .bool a, .bool b => some (.int (b2 a - b2 b))
  | _, _ => none
def repOk (n : Nat) (k : Int) : Bool := inB 4611686018427387903 k && decide (n * k.toNat ≤ LINE)
def mulD : D → D → Option D
  | .int a, .int b => if mulOk a b then some (.int (a * b)) else none
  | .int a, .bool b => some (.int (a * b2 b))
  | .bool a, .int b => some (.int (b2 a * b))
  | .list a, .int k => if repOk a.length k then some (.list (List.replicate k.toNat a).flatten) else none
  | .str a, .int k => if repOk a.length k then some (.str ⟨(List.replicate k.toNat a.cps.toList).flatten.toArray⟩) else none
  | _, _ => none
def fdivD : D → D → Option D
  | .int a, .int b => if divOk b then some (.int (a.fdiv b)) else none
  | _, _ => none
def modD : D → D → Option D
  | .int a, .int b => if b = 0 then none else some (.int (a.fmod b))
  | _, _ => none
def powD : D → D → Option D
  | .int a, .int b => if 0 ≤ b ∧ inB 1000000 b = true ∧ a.natAbs < 2 ^ 64 then some (.int (a ^ b.toNat)) else none
  | _, _ => none
def binD : BOp → D → D → Option D
  | .add => addD
  | .sub => subD
  | .mul => mulD
  | .fdiv => fdivD
  | .mod => modD
  | .pow => powD
def eqD (a b : D) : Option Bool := match a, b with
  | .int a, .int b => some (a == b)
  | .str a, .str b => some (decide (a = b))
  | .bool a, .bool b => some (a == b)
  | a, b => if SeqAt.shaped a && SeqAt.shaped b then some (PyData.eqv a b) else none
def isFlat : D → Bool
  | .none | .bool _ | .int _ | .str _ => true
  | _ => false
def inD (x : D) : D → Option Bool
  | .list ds => if isFlat x && ds.all isFlat then some (ds.any fun z => PyData.eqv z x)
    else if SeqAt.shaped x && SeqAt.shaped (.list ds) then some (ds.any fun z => PyData.eqv z x) else none
  | .tuple ds => if isFlat x && ds.all isFlat then some (ds.any fun z => PyData.eqv z x) else none
  | .str t => match x with
    | .str s => some (!(Builtin.Str.occurrences t s 0 t.length 1).isEmpty)
    | _ => none
  | _ => none
def ltI (f : Int → Int → Bool) (g : Str → Str → Option Bool) : D → D → Option Bool
  | .int a, .int b => some (f a b)
  | .str a, .str b => g a b
  | _, _ => none
def isD : D → D → Option Bool
  | .none, .none => some true
  | _, .none => some false
  | .bool a, .bool b => some (decide (a = b))
  | _, _ => none
def cmpD : COp → D → D → Option Bool
  | .eq, a, b => eqD a b
  | .ne, a, b => (eqD a b).map (!·)
  | .lt, a, b => ltI (fun x y => decide (x < y)) (fun x y => some (decide (x.cps.toList < y.cps.toList))) a b
  | .le, a, b => ltI (fun x y => decide (x ≤ y)) (fun _ _ => none) a b
  | .gt, a, b => ltI (fun x y => decide (y < x)) (fun _ _ => none) a b
  | .ge, a, b => ltI (fun x y => decide (y ≤ x)) (fun _ _ => none) a b
  | .isin, a, b => inD a b
  | .notin, a, b => (inD a b).map (!·)
  | .is, a, b => isD a b
  | .isnot, a, b => (isD a b).map (!·)
def idxD : D → D → Option D
  | .list xs, .int i => L2.atI xs i
  | .tuple xs, .int i => L2.atI xs i
  | .str s, .int i => if s.length ≤ LINE then (L2.atI s.cps.toList i).map fun c => .str ⟨#[c]⟩ else none
  | _, _ => none
def cutL {α : Type} (xs : List α) (lo hi : Option Int) : List α := (xs.drop (HT.sIx xs.length 0 lo)).take (HT.sIx xs.length xs.length hi - HT.sIx xs.length 0 lo)
def slcD (x : D) (lo hi : Option Int) : Option D := match x with
  | .list xs => some (.list (cutL xs lo hi))
  | .tuple xs => some (.tuple (cutL xs lo hi))
  | .str s => if s.length ≤ LINE then some (.str ⟨(cutL s.cps.toList lo hi).toArray⟩) else none
  | _ => none
inductive Tk where
  | int | bool | str | list | tuple | dict
  deriving DecidableEq
def isiD : D → Tk → Bool
  | .int _, .int => true
  | .bool _, .int => true
  | .bool _, .bool => true
  | .str _, .str => true
  | .list _, .list => true
  | .tuple _, .tuple => true
  | .dict _, .dict => true
  | _, _ => false
inductive Blt where
  | len | int | abs | min | max | sum | list | tuple | sorted | any | all
  deriving DecidableEq
def intsO : List D → Option (List Int)
  | [] => some []
  | .int i :: r => (intsO r).map (i :: ·)
  | _ :: _ => none
def boolsO : List D → Option (List Bool)
  | [] => some []
  | .bool i :: r => (boolsO r).map (i :: ·)
  | _ :: _ => none
def maxI : List Int → Int
  | [] => 0
  | x :: xs => xs.foldl (fun m y => if m < y then y else m) x
def minI : List Int → Int
  | [] => 0
  | x :: xs => xs.foldl (fun m y => if y < m then y else m) x
def lenD : D → Option Int
  | .str s => if s.length ≤ LINE then some s.length else none
  | .list xs => some xs.length
  | .tuple xs => some xs.length
  | .dict _ => none
  | _ => none
/-- insertion of an int, for sorted -/
def insI (x : Int) : List Int → List Int
  | [] => [x]
  | y :: ys => if x < y then x :: y :: ys else y :: insI x ys
def sortI : List Int → List Int
  | [] => []
  | x :: xs => insI x (sortI xs)
def bltD : Blt → List D → Option D
  | .len, [x] => (lenD x).map .int
  | .int, [.int i] => some (.int i)
  | .int, [.bool b] => some (.int (b2 b))
  | .abs, [.int i] => some (.int (if i < 0 then -i else i))
  | .min, [.int i, .int j] => some (.int (if j < i then j else i))
  | .max, [.int i, .int j] => some (.int (if j > i then j else i))
  | .min, [.list xs] => match intsO xs with
    | some (n :: ns) => some (.int (minI (n :: ns)))
    | _ => none
  | .max, [.list xs] => match intsO xs with
    | some (n :: ns) => some (.int (maxI (n :: ns)))
    | _ => none
  | .sum, [.list xs] => (intsO xs).map fun ns => .int ns.sum
  | .any, [.list xs] => (boolsO xs).map fun bs => .bool (bs.any id)
  | .all, [.list xs] => (boolsO xs).map fun bs => .bool (bs.all id)
  | .list, [.list xs] => some (.list xs)
  | .list, [.tuple xs] => some (.list xs)
  | .tuple, [.list xs] => some (.tuple xs)
  | .tuple, [.tuple xs] => some (.tuple xs)
  | .sorted, [.list xs] => (intsO xs).map fun ns => .list ((sortI ns).map .int)
  | _, _ => none
inductive Mth where
  | count
  | join
  deriving DecidableEq
def strsO : List D → Option (List Str)
  | [] => some []
  | .str s :: r => (strsO r).map (s :: ·)
  | _ :: _ => none
def mthD : Mth → D → List D → Option D
  | .count, .str s, [.str t] => some (.int (Txt.count s t))
  | .join, .str s, [.list ts] => (strsO ts).bind fun ys => if (ys.map (·.length)).sum + ys.length * s.length ≤ 16777216 then some (.str (Txt.join s ys)) else none
  | _, _, _ => none

/-- does a value of this kind have the method? -/
def mthK : Mth → D → Bool
  | .count, .str _ => true
  | .join, .str _ => true
  | _, _ => false

/-- a new int among ascending ones, none twice -/
def insU (x : Int) : List Int → List Int
  | [] => [x]
  | y :: ys => if x < y then x :: y :: ys else if x = y then y :: ys else y :: insU x ys
def usort : List Int → List Int
  | [] => []
  | x :: xs => insU x (usort xs)
/-- calls of a shape of their own, on one value: sorted(x, reverse=True), sorted(set(x)), len(set(x)) -/
inductive Spc where
  | srev | sset | lset
  deriving DecidableEq
/-- a list of tuples of ints -/
def tupsO : List D → Option (List (List Int))
  | [] => some []
  | .tuple xs :: r => (intsO xs).bind fun ns => (tupsO r).map (ns :: ·)
  | _ :: _ => none
/-- each once -/
def nub : List (List Int) → List (List Int)
  | [] => []
  | x :: xs => if x ∈ xs then nub xs else x :: nub xs
def spcD : Spc → D → Option D
  | .srev, .list xs => (intsO xs).map fun ns => .list ((sortI ns).reverse.map .int)
  | .sset, .list xs => (intsO xs).bind fun ns => if ns.length < 64 then some (.list ((usort ns).map .int)) else none
  | .lset, .list xs => (tupsO xs).bind fun ks => if ks.length < 64 then some (.int (nub ks).length) else none
  | _, _ => none

/-! ### own words -/
/-- a target -/
inductive Tg where
  | n (i : Nat)
  | t (ts : List Tg)
mutual
inductive Ex where
  | v (i : Nat)
  | fz (i : Nat)
  | int (i : Int)
  | str (x : Str)
  | bl (b : Bool)
  | non
  | con (x : Str)
  | neg (a : Ex)
  | bin (o : BOp) (a b : Ex)
  | cmp (o : COp) (a b : Ex)
  | chain (o1 o2 : COp) (a b c : Ex)
  | bop (k : Bool) (a b : Ex)
  | not (a : Ex)
  | ite (c a b : Ex)
  | ix (a i : Ex)
  | sl (a : Ex) (lo hi : OEx)
  | tup (es : List Ex)
  | lst (es : List Ex)
  | call (f : Nat) (es : List Ex)
  | callO (f j : Nat) (es : List Ex)
  | blt (f : Blt) (es : List Ex)
  | isi (a : Ex) (t : Tk)
  | mth (m : Mth) (a : Ex) (es : List Ex)
  | ixP (j : Nat) (i : Ex)
  | lenP (j : Nat)
  | spc (s : Spc) (a : Ex)
  | inP (j : Nat) (a : Ex)
  | srtK (j : Nat)
  | lc (elt : Ex) (tg : Tg) (it : Ir) (cs : OEx) (own : List Nat)
  | lc2 (elt : Ex) (tg : Tg) (it : Ir) (tg1 : Tg) (it1 : Ir) (cs : OEx) (own own1 : List Nat)
  | gq (k : Bool) (elt : Ex) (tg : Tg) (it : Ir) (cs : OEx) (own : List Nat)
inductive OEx where
  | no
  | so (e : Ex)
inductive Ir where
  | of (e : Ex)
  | range1 (a : Ex)
  | range2 (a b : Ex)
  | zip (a b : Ex)
  | enum (a : Ex)
  | enumz (a b : Ex)
end
inductive Cm where
  | asg (t : Tg) (e : Ex)
  | asg2 (i j : Nat) (e : Ex)
  | par2 (i j : Nat) (a b : Ex)
  | own (i : Nat) (e : Ex)
  | ownD (i : Nat) (ks : List Str) (es : List Ex)
  | ownC (i : Nat) (f : Nat) (es : List Ex)
  | mv (i j : Nat)
  | aug (i : Nat) (o : BOp) (e : Ex)
  | app (j : Nat) (e : Ex)
  | ownE (i : Nat)
  | parL (i j : Nat) (a x b : Ex)
  | rem (j : Nat) (e : Ex)
  | ext (j : Nat) (e : Ex)
  | setP (j : Nat) (i e : Ex)
  | augP (j : Nat) (i : Ex) (o : BOp) (e : Ex)
  | ex (e : Ex)
  | ifs (c : Ex) (a b : List Cm)
  | whl (c : Ex) (b : List Cm)
  | for (t : Tg) (it : Ir) (b : List Cm)
  | fgt (is : List Nat)
  | ret (e : Ex)
  | retO (i : Nat)
  | retD (ks : List Str) (es : List Ex)
  | brk
  | cont
  | pass
  | raise (c : Str) (m : Str)
  | tryIs (body : List Cm) (n : Nat) (c b : Str) (a : Option D)
inductive Fl where
  | nx
  | bk
  | ct
  | rt (r : AV)

/-! ### environments -/
def wipeE (σ : En) : List Nat → En
  | [] => σ
  | i :: is => (wipeE σ is).set i .u
/-- behind a comprehension: the block's own slots as they were ahead of it -/
def keepS : Option Slot → Slot
  | some (.d x) => .d x
  | _ => .u
def backE (σ : En) (σ' : En) : List Nat → En
  | [] => σ'
  | i :: is => (backE σ σ' is).set i (keepS σ[i]?)
mutual
def bindT : Tg → D → En → Option En
  | .n i, x, σ => some (σ.set i (.d x))
  | .t ts, x, σ => match x with
    | .tuple xs => if xs.length = ts.length then bindTs ts xs σ else none
    | _ => none
def bindTs : List Tg → List D → En → Option En
  | [], [], σ => some σ
  | t :: ts, x :: xs, σ => (bindT t x σ).bind (bindTs ts xs)
  | _, _, _ => none
end
/-- keys: ints and texts -/
def isKey : D → Bool
  | .int _ => true
  | .str _ => true
  | _ => false
def eqKey : D → D → Bool
  | .int a, .int b => decide (a = b)
  | .str a, .str b => decide (a = b)
  | _, _ => false
def getK (x : D) : List (D × Mu) → Option Mu
  | [] => none
  | p :: r => if eqKey p.1 x then some p.2 else getK x r
def hasK (x : D) (kvs : List (D × Mu)) : Bool := kvs.any fun p => eqKey p.1 x
def repK (x : D) (m : Mu) (kvs : List (D × Mu)) : List (D × Mu) := kvs.map fun p => if eqKey p.1 x then (p.1, m) else p
def putS (x : D) (m : Mu) (kvs : List (D × Mu)) : List (D × Mu) := if hasK x kvs then repK x m kvs else kvs ++ [(x, m)]
def muKind : Mu → Nat
  | .d _ => 0
  | .l _ => 1
  | .k _ _ => 2
/-- an item of an owned tree -/
def muIx : Mu → D → Option D
  | .l xs, .int i => match L2.atI xs i with
    | some (.d x) => some x
    | _ => none
  | .k false kvs, k => if isKey k then match getK k kvs with
      | some (.d x) => some x
      | _ => none
    else none
  | _, _ => none
def muSet : Mu → D → D → Option Mu
  | .l xs, .int i, x => (L2.ixN xs.length i).map fun j => .l (xs.set j (.d x))
  | .k false kvs, k, x => if isKey k && decide (kvs.length < LINE) then some (.k false (putS k (.d x) kvs)) else none
  | _, _, _ => none
/-- the keys, all ints -/
def keysI : List (D × Mu) → Option (List Int)
  | [] => some []
  | p :: r => match p.1 with
    | .int i => (keysI r).map (i :: ·)
    | _ => none
def keysM : Mu → Option (List Int)
  | .k _ kvs => keysI kvs
  | _ => none
/-- all frozen -/
def datM : List Mu → Option (List D)
  | [] => some []
  | m :: r => match m with
    | .d y => (datM r).map (y :: ·)
    | _ => none
/-- without the first one that is equal -/
def remD (x : D) (xs : List Mu) : Option (List Mu) := (datM xs).bind fun ds => if ds.all SeqAt.shaped then (ds.findIdx? fun y => PyData.eqv y x).map fun j => (ds.eraseIdx j).map .d else none
/-- is it in the list? -/
def inM (x : D) : Mu → Option Bool
  | .l xs => (datM xs).bind fun ds => if SeqAt.shaped x && SeqAt.shaped (.list ds) then some (ds.any fun y => PyData.eqv y x) else none
  | _ => none
def muLen : Mu → Option Int
  | .l xs => some xs.length
  | _ => none

/-! ### what it computes -/
def listL (f : D → En → Res (Option D × En)) : List D → En → List D → Res (List D × En)
  | [], σ, acc => .ok (acc, σ)
  | x :: xs, σ, acc => (f x σ).bind fun p => match p.1 with
    | some y => if acc.length < LINE then listL f xs p.2 (acc ++ [y]) else .bad
    | none => listL f xs p.2 acc
/-- the inner loop of two -/
def listL2 (f : D → En → List D → Res (List D × En)) : List D → En → List D → Res (List D × En)
  | [], σ, acc => .ok (acc, σ)
  | x :: xs, σ, acc => (f x σ acc).bind fun p => listL2 f xs p.2 p.1
/-- all (k true), any (k false) of what f gives -/
def quaL (k : Bool) (f : D → En → Res (Option D × En)) : List D → En → Res (Bool × En)
  | [], σ => .ok (k, σ)
  | x :: xs, σ => (f x σ).bind fun p => match p.1 with
    | some y => (ofO (trD y)).bind fun t => if t = k then quaL k f xs p.2 else .ok (t, p.2)
    | none => quaL k f xs p.2
def zipD : List D → List D → List D
  | x :: xs, y :: ys => .tuple [x, y] :: zipD xs ys
  | _, _ => []
def enumD (i : Nat) : List D → List D
  | [] => []
  | x :: xs => .tuple [.int i, x] :: enumD (i + 1) xs
def rangeD (lo : Int) : Nat → List D
  | 0 => []
  | n + 1 => .int lo :: rangeD (lo + 1) n
def signsD (s : Str) : List D := s.cps.toList.map fun c => .str ⟨#[c]⟩
def rOk (i : Int) : Bool := inB 4611686018427387903 i
def itemsD : D → Option (List D)
  | .list xs => some xs
  | .tuple xs => some xs
  | .str s => some (signsD s)
  | _ => none
abbrev Fns := Nat → List AV → Res (AV × Option Mu)
def datO : AV → Option D
  | .d x => some x
  | .m _ => none
section
variable (C : List (Str × D)) (fn : Fns)
/-- an expression's value, and its trD as a test -/
structure Sm where
  v : En → Res (D × En)
  t : En → Res (Bool × En)
def Sm.of (f : En → Res (D × En)) : Sm := ⟨f, fun σ => (f σ).bind fun p => (ofO (trD p.1)).bind fun t => .ok (t, p.2)⟩
mutual
def sm : Ex → Sm
  | .v i => .of fun σ => match σ[i]? with
    | some (.d x) => .ok (x, σ)
    | _ => .bad
  | .fz i => .of fun σ => match σ[i]? with
    | some (.d x) => .ok (x, σ)
    | some (.m false x) => .ok (x.toD, σ.set i (.d x.toD))
    | _ => .bad
  | .int i => .of fun σ => .ok (.int i, σ)
  | .str x => .of fun σ => .ok (.str x, σ)
  | .bl b => .of fun σ => .ok (.bool b, σ)
  | .non => .of fun σ => .ok (.none, σ)
  | .con x => .of fun σ => (ofO (C.lookup x)).bind fun d => .ok (d, σ)
  | .neg a => .of fun σ => ((sm a).v σ).bind fun p => match p.1 with
    | .int i => .ok (.int (-i), p.2)
    | _ => .bad
  | .bin o a b => .of fun σ => ((sm a).v σ).bind fun p => ((sm b).v p.2).bind fun q => (ofO (binD o p.1 q.1)).bind fun z => .ok (z, q.2)
  | .cmp o a b => .of fun σ => ((sm a).v σ).bind fun p => ((sm b).v p.2).bind fun q => (ofO (cmpD o p.1 q.1)).bind fun z => .ok (.bool z, q.2)
  | .chain o1 o2 a b c => .of fun σ => ((sm a).v σ).bind fun p => ((sm b).v p.2).bind fun q => (ofO (cmpD o1 p.1 q.1)).bind fun z =>
      match z with
      | true => ((sm c).v q.2).bind fun r => (ofO (cmpD o2 q.1 r.1)).bind fun z => .ok (.bool z, r.2)
      | false => .ok (.bool false, q.2)
  | .bop k a b => ⟨fun σ => ((sm a).v σ).bind fun p => (ofO (trD p.1)).bind fun t => if t = k then (sm b).v p.2 else .ok p,
      fun σ => ((sm a).t σ).bind fun p => if p.1 = k then (sm b).t p.2 else .ok p⟩
  | .not a => ⟨fun σ => ((sm a).v σ).bind fun p => (ofO (trD p.1)).bind fun t => .ok (.bool (!t), p.2), fun σ => ((sm a).t σ).bind fun p => .ok (!p.1, p.2)⟩
  | .ite c a b => ⟨fun σ => ((sm c).t σ).bind fun p => match p.1 with
      | true => (sm a).v p.2
      | false => (sm b).v p.2,
    fun σ => ((sm c).t σ).bind fun p => match p.1 with
      | true => (sm a).t p.2
      | false => (sm b).t p.2⟩
  | .ix a i => .of fun σ => ((sm a).v σ).bind fun p => ((sm i).v p.2).bind fun q => (ofO (idxD p.1 q.1)).bind fun z => .ok (z, q.2)
  | .sl a lo hi => .of fun σ => ((sm a).v σ).bind fun p => (smO lo p.2).bind fun q => (smO hi q.2).bind fun r => (ofO (slcD p.1 q.1 r.1)).bind fun z => .ok (z, r.2)
  | .tup es => .of fun σ => (sms es σ).bind fun p => if p.1.length ≤ LINE then .ok (.tuple p.1, p.2) else .bad
  | .lst es => .of fun σ => (sms es σ).bind fun p => if p.1.length ≤ LINE then .ok (.list p.1, p.2) else .bad
  | .call f es => .of fun σ => (sms es σ).bind fun p => (fn f (p.1.map .d)).bind fun r => (ofO (datO r.1)).bind fun z => .ok (z, p.2)
  | .callO f j es => .of fun σ => match σ[j]? with
    | some (.m _ _) => (sms es σ).bind fun p => match p.2[j]? with
      | some (.m q m) => (fn f (.m m :: p.1.map .d)).bind fun r => match r.2 with
        | some m' => (ofO (datO r.1)).bind fun z => .ok (z, p.2.set j (.m q m'))
        | none => .bad
      | _ => .bad
    | _ => .bad
  | .blt f es => .of fun σ => (sms es σ).bind fun p => (ofO (bltD f p.1)).bind fun z => .ok (z, p.2)
  | .isi a t => .of fun σ => ((sm a).v σ).bind fun p => .ok (.bool (isiD p.1 t), p.2)
  | .mth m a es => .of fun σ => ((sm a).v σ).bind fun p => if mthK m p.1 then (sms es p.2).bind fun q => (ofO (mthD m p.1 q.1)).bind fun z => .ok (z, q.2) else .bad
  | .ixP j i => .of fun σ => match σ[j]? with
    | some (.m _ m0) => ((sm i).v σ).bind fun p => match p.2[j]? with
      | some (.m _ m) => if muKind m = muKind m0 then (ofO (muIx m p.1)).bind fun z => .ok (z, p.2) else .bad
      | _ => .bad
    | _ => .bad
  | .lenP j => .of fun σ => match σ[j]? with
    | some (.m _ m) => (ofO (muLen m)).bind fun z => .ok (.int z, σ)
    | _ => .bad
  | .spc s a => .of fun σ => ((sm a).v σ).bind fun p => (ofO (spcD s p.1)).bind fun z => .ok (z, p.2)
  | .inP j a => .of fun σ => ((sm a).v σ).bind fun p => match p.2[j]? with
    | some (.m _ m) => (ofO (inM p.1 m)).bind fun z => .ok (.bool z, p.2)
    | _ => .bad
  | .srtK j => .of fun σ => match σ[j]? with
    | some (.m _ m) => (ofO (keysM m)).bind fun ns => if ns.length < 64 then .ok (.list ((sortI ns).map .int), σ) else .bad
    | _ => .bad
  | .lc elt tg it cs own => .of fun σ => (smI it σ).bind fun p =>
      (listL (fun x σ => (ofO (bindT tg x σ)).bind fun σ1 => (smC cs σ1).bind fun p => match p.1 with
        | true => ((sm elt).v p.2).bind fun q => .ok (some q.1, wipeE q.2 own)
        | false => .ok (none, wipeE p.2 own)) p.1 (wipeE p.2 own) []).still.bind fun q => .ok (.list q.1, backE p.2 q.2 own)
  | .lc2 elt tg it tg1 it1 cs own own1 => .of fun σ => (smI it σ).bind fun p =>
      (listL2 (fun x σ acc => (ofO (bindT tg x σ)).bind fun σ1 => (smI it1 σ1).bind fun r =>
        (listL (fun x σ => (ofO (bindT tg1 x σ)).bind fun σ1 => (smC cs σ1).bind fun p => match p.1 with
          | true => ((sm elt).v p.2).bind fun q => .ok (some q.1, wipeE q.2 own1)
          | false => .ok (none, wipeE p.2 own1)) r.1 (wipeE r.2 own1) acc).bind fun q => .ok (q.1, wipeE q.2 own)) p.1 (wipeE p.2 own) []).still.bind fun q => .ok (.list q.1, backE p.2 q.2 own)
  | .gq k elt tg it cs own => .of fun σ => (smI it σ).bind fun p =>
      (quaL k (fun x σ => (ofO (bindT tg x σ)).bind fun σ1 => (smC cs σ1).bind fun p => match p.1 with
        | true => ((sm elt).v p.2).bind fun q => .ok (some q.1, wipeE q.2 own)
        | false => .ok (none, wipeE p.2 own)) p.1 (wipeE p.2 own)).still.bind fun q => .ok (.bool q.1, backE p.2 q.2 own)
termination_by structural e => e
def sms : List Ex → En → Res (List D × En)
  | [] => fun σ => .ok ([], σ)
  | e :: es => fun σ => ((sm e).v σ).bind fun p => (sms es p.2).bind fun q => .ok (p.1 :: q.1, q.2)
termination_by structural e => e
def smO : OEx → En → Res (Option Int × En)
  | .no => fun σ => .ok (none, σ)
  | .so e => fun σ => ((sm e).v σ).bind fun p => match p.1 with
    | .int i => .ok (some i, p.2)
    | _ => .bad
termination_by structural e => e
/-- a clause's test -/
def smC : OEx → En → Res (Bool × En)
  | .no => fun σ => .ok (true, σ)
  | .so e => (sm e).t
termination_by structural e => e
def smI : Ir → En → Res (List D × En)
  | .of e => fun σ => ((sm e).v σ).bind fun p => (ofO (itemsD p.1)).bind fun xs => .ok (xs, p.2)
  | .range1 a => fun σ => ((sm a).v σ).bind fun p => match p.1 with
    | .int j => if rOk j then .ok (rangeD 0 j.toNat, p.2) else .bad
    | _ => .bad
  | .range2 a b => fun σ => ((sm a).v σ).bind fun p => ((sm b).v p.2).bind fun q => match p.1, q.1 with
    | .int i, .int j => if rOk i && rOk j then .ok (rangeD i (j - i).toNat, q.2) else .bad
    | _, _ => .bad
  | .zip a b => fun σ => ((sm a).v σ).bind fun p => ((sm b).v p.2).bind fun q => (ofO (itemsD p.1)).bind fun xs => (ofO (itemsD q.1)).bind fun ys => .ok (zipD xs ys, q.2)
  | .enum a => fun σ => ((sm a).v σ).bind fun p => (ofO (itemsD p.1)).bind fun xs => .ok (enumD 0 xs, p.2)
  | .enumz a b => fun σ => ((sm a).v σ).bind fun p => ((sm b).v p.2).bind fun q => (ofO (itemsD p.1)).bind fun xs => (ofO (itemsD q.1)).bind fun ys => .ok (enumD 0 (zipD xs ys), q.2)
termination_by structural e => e
end

end
/-! ### statements -/
def FUEL : Nat := 2 ^ 200
abbrev Rn := En → Res (Fl × En)
def seqR (a b : Rn) : Rn := fun σ => (a σ).bind fun p => match p.1 with
  | .nx => b p.2
  | f => .ok (f, p.2)
def forL (b : D → Rn) : List D → Rn
  | [], σ => .ok (.nx, σ)
  | x :: xs, σ => (b x σ).bind fun p => match p.1 with
    | .nx => forL b xs p.2
    | .ct => forL b xs p.2
    | .bk => .ok (.nx, p.2)
    | .rt r => .ok (.rt r, p.2)
def whlL (c : En → Res (Bool × En)) (b : Rn) : Nat → Rn
  | 0, _ => .bad
  | n + 1, σ => (c σ).bind fun p => match p.1 with
    | false => .ok (.nx, p.2)
    | true => (b p.2).bind fun q => match q.1 with
      | .nx => whlL c b n q.2
      | .ct => whlL c b n q.2
      | .bk => .ok (.nx, q.2)
      | .rt r => .ok (.rt r, q.2)
def dOk (ks : List Str) (n : Nat) : Bool := decide ks.Nodup && (decide (0 < ks.length) && (decide (ks.length ≤ 15) && decide (n = ks.length)))
def ownL : Option Slot → Bool
  | some (.m _ (.l _)) => true
  | _ => false
def ownA : Option Slot → Bool
  | some (.m _ _) => true
  | _ => false
/-- an expression that makes a new list -/
def isC : Ex → Bool
  | .lst _ => true
  | .lc .. => true
  | .lc2 .. => true
  | .bin .mul (.lst _) _ => true
  | .blt .list _ => true
  | _ => false
def ownOf : D → Option Mu
  | .list xs => some (.l (xs.map .d))
  | _ => none
def kvsOf : List Str → List D → Option (List (D × Mu))
  | [], [] => some []
  | k :: ks, x :: xs => (kvsOf ks xs).map ((.str k, .d x) :: ·)
  | _, _ => none
def binIp : BOp → D → D → Option D
  | .add, .int a, .int b => some (.int (a + b))
  | .add, .str a, .str b => if a.length + b.length ≤ LINE then some (.str (a ++ b)) else none
  | .sub, .int a, .int b => some (.int (a - b))
  | .mul, .int a, .int b => if mulOk a b then some (.int (a * b)) else none
  | _, _, _ => none
section
variable (C : List (Str × D)) (sub : List (Str × Str)) (fn : Fns)
mutual
def run : Cm → Rn
  | .asg t e => fun σ => ((sm C fn e).v σ).bind fun p => (ofO (bindT t p.1 p.2)).bind fun σ1 => .ok (.nx, σ1)
  | .asg2 i j e => fun σ => ((sm C fn e).v σ).bind fun p => .ok (.nx, (p.2.set i (.d p.1)).set j (.d p.1))
  | .par2 i j a b => fun σ => ((sm C fn a).v σ).bind fun p => ((sm C fn b).v p.2).bind fun q => .ok (.nx, (q.2.set i (.d p.1)).set j (.d q.1))
  | .own i e => fun σ => if isC e then ((sm C fn e).v σ).bind fun p => (ofO (ownOf p.1)).bind fun m => .ok (.nx, p.2.set i (.m false m)) else .bad
  | .ownD i ks es => fun σ => if dOk ks es.length then (sms C fn es σ).bind fun p => (ofO (kvsOf ks p.1)).bind fun m => .ok (.nx, p.2.set i (.m false (.k false m))) else .bad
  | .ownC i f es => fun σ => (sms C fn es σ).bind fun p => (fn f (p.1.map .d)).bind fun r => match r.1 with
    | .m m => .ok (.nx, p.2.set i (.m false m))
    | .d _ => .bad
  | .mv i j => fun σ => match σ[j]? with
    | some (.m false m) => if i = j then .bad else .ok (.nx, (σ.set j .u).set i (.m false m))
    | _ => .bad
  | .aug i o e => fun σ => match σ[i]? with
    | some (.d x) => ((sm C fn e).v σ).bind fun p => (ofO (binIp o x p.1)).bind fun z => .ok (.nx, p.2.set i (.d z))
    | _ => .bad
  | .app j e => fun σ => if ownL σ[j]? then ((sm C fn e).v σ).bind fun p => match p.2[j]? with
      | some (.m q (.l xs)) => if xs.length < LINE then .ok (.nx, p.2.set j (.m q (.l (xs ++ [.d p.1])))) else .bad
      | _ => .bad
    else .bad
  | .parL i j a x b => fun σ => ((sm C fn a).v σ).bind fun p => ((sm C fn x).v p.2).bind fun q => ((sm C fn b).v q.2).bind fun r => match q.1, r.1 with
    | .list xs, .int n => if repOk xs.length n then .ok (.nx, (r.2.set i (.d p.1)).set j (.m false (.l ((List.replicate n.toNat xs).flatten.map .d)))) else .bad
    | _, _ => .bad
  | .ownE i => fun σ => .ok (.nx, σ.set i (.m false (.k false [])))
  | .rem j e => fun σ => if ownL σ[j]? then ((sm C fn e).v σ).bind fun p => match p.2[j]? with
      | some (.m q (.l xs)) => if SeqAt.shaped p.1 then (ofO (remD p.1 xs)).bind fun ys => .ok (.nx, p.2.set j (.m q (.l ys))) else .bad
      | _ => .bad
    else .bad
  | .ext j e => fun σ => if ownL σ[j]? && isC e then ((sm C fn e).v σ).bind fun p => match p.2[j]? with
      | some (.m q (.l xs)) => match p.1 with
        | .list ys => if xs.length + ys.length ≤ LINE then .ok (.nx, p.2.set j (.m q (.l (xs ++ ys.map .d)))) else .bad
        | _ => .bad
      | _ => .bad
    else .bad
  | .setP j i e => fun σ => ((sm C fn e).v σ).bind fun p => if ownA p.2[j]? then ((sm C fn i).v p.2).bind fun q => match q.2[j]? with
      | some (.m f m) => (ofO (muSet m q.1 p.1)).bind fun m' => .ok (.nx, q.2.set j (.m f m'))
      | _ => .bad
    else .bad
  | .augP j i o e => fun σ => if ownA σ[j]? then ((sm C fn i).v σ).bind fun p => match p.2[j]? with
      | some (.m _ m) => (ofO (muIx m p.1)).bind fun x => ((sm C fn e).v p.2).bind fun q => (ofO (binIp o x q.1)).bind fun z => match q.2[j]? with
        | some (.m f m) => (ofO (muSet m p.1 z)).bind fun m' => .ok (.nx, q.2.set j (.m f m'))
        | _ => .bad
      | _ => .bad
    else .bad
  | .ex e => fun σ => ((sm C fn e).v σ).bind fun p => .ok (.nx, p.2)
  | .ifs c a b => fun σ => ((sm C fn c).t σ).bind fun p => match p.1 with
    | true => runs a p.2
    | false => runs b p.2
  | .whl c b => whlL (sm C fn c).t (runs b) FUEL
  | .for t it b => fun σ => (smI C fn it σ).bind fun p => forL (fun x σ => (ofO (bindT t x σ)).bind fun σ1 => runs b σ1) p.1 p.2
  | .fgt is => fun σ => .ok (.nx, wipeE σ is)
  | .ret e => fun σ => ((sm C fn e).v σ).bind fun p => .ok (.rt (.d p.1), p.2)
  | .retO i => fun σ => match σ[i]? with
    | some (.m false m) => .ok (.rt (.m m), σ.set i .u)
    | _ => .bad
  | .retD ks es => fun σ => if dOk ks es.length then (sms C fn es σ).bind fun p => (ofO (kvsOf ks p.1)).bind fun m => .ok (.rt (.m (.k false m)), p.2) else .bad
  | .brk => fun σ => .ok (.bk, σ)
  | .cont => fun σ => .ok (.ct, σ)
  | .pass => fun σ => .ok (.nx, σ)
  | .raise c _ => fun _ => if (c, c) ∈ sub then .exc c else .bad
  | .tryIs body _ c b a => fun σ => if (c, b) ∈ sub then (match runs body σ with
      | .ok p => .ok p
      | .exc c' => if c' = c then .ok (.rt (.d (a.getD (.bool true))), []) else .bad
      | .bad => .bad) else .bad
termination_by structural e => e
def runs : List Cm → Rn
  | [] => fun σ => .ok (.nx, σ)
  | s :: ss => seqR (run s) (runs ss)
termination_by structural e => e
end
end

/-! ### a program -/
structure Fd where
  name : Str
  np : Nat
  N : List Str
  own : Bool
  tab : Option Nat
  body : List Cm
structure Pg where
  fns : List Fd
  C : List (Str × D)
  sub : List (Str × Str)
def startE (n : Nat) (own : Bool) (args : List AV) : En :=
  args.map (fun a => match a with | .d x => Slot.d x | .m x => Slot.m true x) ++ List.replicate (n - args.length) .u
/-- the arguments' kinds: the first one owned, or none -/
def argsOk : Bool → List AV → Bool
  | true, .m _ :: r => r.all fun a => (datO a).isSome
  | false, r => r.all fun a => (datO a).isSome
  | _, _ => false
def endE (own : Bool) (r : AV) (σ : En) : Res (AV × Option Mu) := match own with
  | true => match σ[(0 : Nat)]? with
    | some (.m true m) => .ok (r, some m)
    | _ => .bad
  | false => .ok (r, none)
def callF (P : Pg) : Nat → Fns
  | 0, _, _ => .bad
  | k + 1, f, args => match P.fns[f]? with
    | none => .bad
    | some F => if args.length = F.np ∧ argsOk F.own args = true then
        (runs P.C P.sub (callF P k) F.body (startE F.N.length F.own args)).bind fun p => match p.1 with
          | .rt r => endE F.own r p.2
          | .nx => endE F.own (.d .none) p.2
          | _ => .bad
      else .bad
end N
/-! N1: what a value stands for in the heap. -/
namespace N
open PySem PySem.Spec PyProof.Rows L2

/-! ### keys of dicts -/
def keyD : Key → D
  | .inl i => .int i
  | .inr s => .str s
theorem keyD_inj {a b : Key} (h : keyD a = keyD b) : a = b := by
  cases a <;> cases b <;> simp [keyD] at h <;> simp [h]

/-! ### frozen data -/
mutual
inductive Rp (K : PySem.W.Frag) (G : Hp) : V → D → Prop
  | non : Rp K G .non .none
  | bl (b : Bool) : Rp K G (.bl b) (.bool b)
  | int (i : Int) : Rp K G (.int i) (.int i)
  | str (x : Str) : Rp K G (.str x) (.str x)
  | lst {a : Addr} {xs : List V} {ds : List D} : SqL K G a xs → RpAll K G xs ds → Rp K G (.ref a) (.list ds)
  | tup {a : Addr} {xs : List V} {ds : List D} : SqT K G a xs → RpAll K G xs ds → Rp K G (.ref a) (.tuple ds)
  | dic {a : Addr} {kvs : List (Key × V)} {ds : List (D × D)} : Rd G a (.dK kvs) → RpKv K G kvs ds → Rp K G (.ref a) (.dict ds)
inductive RpAll (K : PySem.W.Frag) (G : Hp) : List V → List D → Prop
  | nil : RpAll K G [] []
  | cons {v : V} {vs : List V} {d : D} {ds : List D} : Rp K G v d → RpAll K G vs ds → RpAll K G (v :: vs) (d :: ds)
inductive RpKv (K : PySem.W.Frag) (G : Hp) : List (Key × V) → List (D × D) → Prop
  | nil : RpKv K G [] []
  | cons {k : Key} {v : V} {vs : List (Key × V)} {d : D} {ds : List (D × D)} : Rp K G v d → RpKv K G vs ds → RpKv K G ((k, v) :: vs) ((keyD k, d) :: ds)
end
/-- every object of G stands in G' -/
def Le (G G' : Hp) : Prop := ∀ a o, G a = some o → G' a = some o
theorem Le.refl (G : Hp) : Le G G := fun _ _ h => h
theorem Le.trans {G G1 G2 : Hp} (a : Le G G1) (b : Le G1 G2) : Le G G2 := fun c o h => b c o (a c o h)
theorem Le.rd {G G' : Hp} (l : Le G G') {a : Addr} {u : HO} (h : Rd G a u) : Rd G' a u := by
  rcases h with h | ⟨o, h⟩
  · exact .inl (l _ _ h)
  · exact .inr ⟨o, l _ _ h⟩
theorem Le.sqL {K : PySem.W.Frag} {G G' : Hp} (l : Le G G') {a : Addr} {xs : List V} (h : SqL K G a xs) : SqL K G' a xs := by
  rcases h with h | h
  · exact .inl (l.rd h)
  · exact .inr h
theorem Le.sqT {K : PySem.W.Frag} {G G' : Hp} (l : Le G G') {a : Addr} {xs : List V} (h : SqT K G a xs) : SqT K G' a xs := by
  rcases h with h | h
  · exact .inl (l.rd h)
  · exact .inr h
theorem Le.upd {G : Hp} {p : Addr} {o : HO} (h : G p = none) : Le G (upd G p o) := fun b x e => by
  rw [upd_ne (ne_of_none e h)]; exact e
mutual
theorem Rp.mono {K : PySem.W.Frag} {G G' : Hp} (l : Le G G') : ∀ {v : V} {d : D}, Rp K G v d → Rp K G' v d
  | _, _, .non => .non
  | _, _, .bl b => .bl b
  | _, _, .int i => .int i
  | _, _, .str x => .str x
  | _, _, .lst s a => .lst (l.sqL s) (RpAll.mono l a)
  | _, _, .tup s a => .tup (l.sqT s) (RpAll.mono l a)
  | _, _, .dic s a => .dic (l.rd s) (RpKv.mono l a)
theorem RpAll.mono {K : PySem.W.Frag} {G G' : Hp} (l : Le G G') : ∀ {v : List V} {d : List D}, RpAll K G v d → RpAll K G' v d
  | _, _, .nil => .nil
  | _, _, .cons a b => .cons (Rp.mono l a) (RpAll.mono l b)
theorem RpKv.mono {K : PySem.W.Frag} {G G' : Hp} (l : Le G G') : ∀ {v : List (Key × V)} {d : List (D × D)}, RpKv K G v d → RpKv K G' v d
  | _, _, .nil => .nil
  | _, _, .cons a b => .cons (Rp.mono l a) (RpKv.mono l b)
end
section
variable {K : PySem.W.Frag} {G : Hp}
theorem RpAll.length {vs : List V} {ds : List D} (h : RpAll K G vs ds) : vs.length = ds.length := by
  induction ds generalizing vs with
  | nil => cases h; rfl
  | cons d ds ih =>
    cases h with
    | cons a b => simp [ih b]
theorem RpAll.append : ∀ {vs ws : List V} {ds es : List D}, RpAll K G vs ds → RpAll K G ws es → RpAll K G (vs ++ ws) (ds ++ es)
  | _, _, _, _, .nil, h => h
  | _, _, _, _, .cons a b, h => .cons a (RpAll.append b h)
theorem RpAll.get : ∀ {vs : List V} {ds : List D} {i : Nat} {v : V}, RpAll K G vs ds → vs[i]? = some v → ∃ d, ds[i]? = some d ∧ Rp K G v d
  | _, _, _, _, .nil, h => by simp at h
  | _, _, 0, _, .cons a b, h => by simp at h; subst h; exact ⟨_, rfl, a⟩
  | _, _, i + 1, v, .cons a b, h => by
    obtain ⟨d, h1, h2⟩ := RpAll.get (i := i) (v := v) b (by simpa using h)
    exact ⟨d, by simpa using h1, h2⟩
theorem RpAll.get' : ∀ {vs : List V} {ds : List D} {i : Nat} {d : D}, RpAll K G vs ds → ds[i]? = some d → ∃ v, vs[i]? = some v ∧ Rp K G v d
  | _, _, _, _, .nil, h => by simp at h
  | _, _, 0, _, .cons a b, h => by simp at h; subst h; exact ⟨_, rfl, a⟩
  | _, _, i + 1, d, .cons a b, h => by
    obtain ⟨v, h1, h2⟩ := RpAll.get' (i := i) (d := d) b (by simpa using h)
    exact ⟨v, by simpa using h1, h2⟩
theorem RpAll.take : ∀ {vs : List V} {ds : List D} (n : Nat), RpAll K G vs ds → RpAll K G (vs.take n) (ds.take n)
  | _, _, 0, _ => .nil
  | _, _, _ + 1, .nil => .nil
  | _, _, n + 1, .cons a b => .cons a (RpAll.take n b)
theorem RpAll.drop : ∀ {vs : List V} {ds : List D} (n : Nat), RpAll K G vs ds → RpAll K G (vs.drop n) (ds.drop n)
  | _, _, 0, h => h
  | _, _, _ + 1, .nil => .nil
  | _, _, n + 1, .cons a b => RpAll.drop n b
theorem RpAll.cut {vs : List V} {ds : List D} (h : RpAll K G vs ds) (lo hi : Option Int) : RpAll K G (cutV vs lo hi) (cutL ds lo hi) := by
  unfold cutV cutL
  rw [h.length]
  exact (h.drop _).take _
theorem RpAll.rep {vs : List V} {ds : List D} (h : RpAll K G vs ds) : ∀ k : Nat, RpAll K G (List.replicate k vs).flatten (List.replicate k ds).flatten
  | 0 => .nil
  | k + 1 => by
    rw [List.replicate_succ, List.replicate_succ, List.flatten_cons, List.flatten_cons]
    exact h.append (h.rep k)
mutual
/-- for the layer's == -/
theorem Rp.dp : ∀ {v : V} {d : D}, Rp K G v d → d.canLay0 = true → Dp K G v d
  | _, _, .non, _ => .non
  | _, _, .bl b, _ => .bl b
  | _, _, .int i, _ => .int i
  | _, _, .str x, _ => .str x
  | _, _, .lst s a, h => .lst s (RpAll.dp a (by simpa [PyData.canLay0] using h))
  | _, _, .tup s a, h => .tup s (RpAll.dp a (by simpa [PyData.canLay0] using h))
  | _, _, .dic s a, h => by simp [PyData.canLay0] at h
theorem RpAll.dp : ∀ {v : List V} {d : List D}, RpAll K G v d → PyData.canLayAll0 d = true → DpAll K G v d
  | _, _, .nil, _ => .nil
  | _, _, .cons a b, h => by
    simp only [PyData.canLayAll0, Bool.and_eq_true] at h
    exact .cons (Rp.dp a h.1) (RpAll.dp b h.2)
end
theorem Rp.flat {v : V} {d : D} (h : Rp K G v d) (f : isFlat d = true) : flatV v = true ∧ ∀ G', Rp K G' v d := by
  cases h with
  | non => exact ⟨rfl, fun _ => .non⟩
  | bl b => exact ⟨rfl, fun _ => .bl b⟩
  | int i => exact ⟨rfl, fun _ => .int i⟩
  | str x => exact ⟨rfl, fun _ => .str x⟩
  | lst _ _ => cases f
  | tup _ _ => cases f
  | dic _ _ => cases f
theorem Rp.int_inv {v : V} {i : Int} (h : Rp K G v (.int i)) : v = .int i := by cases h; rfl
theorem Rp.bl_inv {v : V} {i : Bool} (h : Rp K G v (.bool i)) : v = .bl i := by cases h; rfl
theorem Rp.str_inv {v : V} {i : Str} (h : Rp K G v (.str i)) : v = .str i := by cases h; rfl
theorem Rp.non_inv {v : V} (h : Rp K G v .none) : v = .non := by cases h; rfl
theorem Rp.lst_inv {v : V} {ds : List D} (h : Rp K G v (.list ds)) : ∃ a xs, v = .ref a ∧ SqL K G a xs ∧ RpAll K G xs ds := by
  cases h with
  | lst s a => exact ⟨_, _, rfl, s, a⟩
theorem Rp.tup_inv {v : V} {ds : List D} (h : Rp K G v (.tuple ds)) : ∃ a xs, v = .ref a ∧ SqT K G a xs ∧ RpAll K G xs ds := by
  cases h with
  | tup s a => exact ⟨_, _, rfl, s, a⟩
theorem Rp.dic_inv {v : V} {ds : List (D × D)} (h : Rp K G v (.dict ds)) : ∃ a kvs, v = .ref a ∧ Rd G a (.dK kvs) ∧ RpKv K G kvs ds := by
  cases h with
  | dic s a => exact ⟨_, _, rfl, s, a⟩
end

/-! ### owned trees: H the heap, G its frozen part, the addresses that they hold -/
mutual
inductive RM (K : PySem.W.Frag) (H G : Hp) : V → Mu → List Addr → Prop
  | d {v : V} {x : D} : Rp K G v x → RM K H G v (.d x) []
  | l {a : Addr} {vs : List V} {xs : List Mu} {f : List Addr} : H a = some (.lst vs) → RMs K H G vs xs f → a ∉ f → RM K H G (.ref a) (.l xs) (a :: f)
  | k {a : Addr} {vs : List (Key × V)} {xs : List (D × Mu)} {f : List Addr} : H a = some (.dK vs) → RMk K H G vs xs f → a ∉ f → RM K H G (.ref a) (.k false xs) (a :: f)
inductive RMs (K : PySem.W.Frag) (H G : Hp) : List V → List Mu → List Addr → Prop
  | nil : RMs K H G [] [] []
  | cons {v : V} {vs : List V} {x : Mu} {xs : List Mu} {f g : List Addr} : RM K H G v x f → RMs K H G vs xs g → (∀ a ∈ f, a ∉ g) → RMs K H G (v :: vs) (x :: xs) (f ++ g)
inductive RMk (K : PySem.W.Frag) (H G : Hp) : List (Key × V) → List (D × Mu) → List Addr → Prop
  | nil : RMk K H G [] [] []
  | cons {k : Key} {v : V} {vs : List (Key × V)} {x : Mu} {xs : List (D × Mu)} {f g : List Addr} : RM K H G v x f → RMk K H G vs xs g → (∀ a ∈ f, a ∉ g) → RMk K H G ((k, v) :: vs) ((keyD k, x) :: xs) (f ++ g)
end
mutual
theorem RM.frame {K : PySem.W.Frag} {H H' G G' : Hp} (l : Le G G') : ∀ {v : V} {x : Mu} {f : List Addr}, RM K H G v x f → (∀ a ∈ f, H' a = H a) → RM K H' G' v x f
  | _, _, _, .d r, _ => .d (r.mono l)
  | _, _, _, .l e r n, h => .l ((h _ (List.mem_cons_self ..)).trans e) (RMs.frame l r fun a m => h a (List.mem_cons_of_mem _ m)) n
  | _, _, _, .k e r n, h => .k ((h _ (List.mem_cons_self ..)).trans e) (RMk.frame l r fun a m => h a (List.mem_cons_of_mem _ m)) n
theorem RMs.frame {K : PySem.W.Frag} {H H' G G' : Hp} (l : Le G G') : ∀ {v : List V} {x : List Mu} {f : List Addr}, RMs K H G v x f → (∀ a ∈ f, H' a = H a) → RMs K H' G' v x f
  | _, _, _, .nil, _ => .nil
  | _, _, _, .cons r s n, h => .cons (RM.frame l r fun a m => h a (List.mem_append_left _ m)) (RMs.frame l s fun a m => h a (List.mem_append_right _ m)) n
theorem RMk.frame {K : PySem.W.Frag} {H H' G G' : Hp} (l : Le G G') : ∀ {v : List (Key × V)} {x : List (D × Mu)} {f : List Addr}, RMk K H G v x f → (∀ a ∈ f, H' a = H a) → RMk K H' G' v x f
  | _, _, _, .nil, _ => .nil
  | _, _, _, .cons r s n, h => .cons (RM.frame l r fun a m => h a (List.mem_append_left _ m)) (RMk.frame l s fun a m => h a (List.mem_append_right _ m)) n
end
mutual
/-- every address that it holds is tracked -/
theorem RM.there {K : PySem.W.Frag} {H G : Hp} : ∀ {v : V} {x : Mu} {f : List Addr}, RM K H G v x f → ∀ a ∈ f, ∃ o, H a = some o ∧ Mut (some o)
  | _, _, _, .d _, _, h => nomatch h
  | _, _, _, .l e r _, a, h => by
    rcases List.mem_cons.mp h with rfl | h
    · exact ⟨_, e, trivial⟩
    · exact RMs.there r a h
  | _, _, _, .k e r _, a, h => by
    rcases List.mem_cons.mp h with rfl | h
    · exact ⟨_, e, trivial⟩
    · exact RMk.there r a h
theorem RMs.there {K : PySem.W.Frag} {H G : Hp} : ∀ {v : List V} {x : List Mu} {f : List Addr}, RMs K H G v x f → ∀ a ∈ f, ∃ o, H a = some o ∧ Mut (some o)
  | _, _, _, .nil, _, h => nomatch h
  | _, _, _, .cons r s _, a, h => by
    rcases List.mem_append.mp h with h | h
    · exact RM.there r a h
    · exact RMs.there s a h
theorem RMk.there {K : PySem.W.Frag} {H G : Hp} : ∀ {v : List (Key × V)} {x : List (D × Mu)} {f : List Addr}, RMk K H G v x f → ∀ a ∈ f, ∃ o, H a = some o ∧ Mut (some o)
  | _, _, _, .nil, _, h => nomatch h
  | _, _, _, .cons r s _, a, h => by
    rcases List.mem_append.mp h with h | h
    · exact RM.there r a h
    · exact RMk.there s a h
end
/-- G with the objects at f frozen -/
def frzG (H G : Hp) (f : List Addr) : Hp := fun a => if a ∈ f then H a else G a
theorem frzG_le {H G : Hp} {f : List Addr} (n : ∀ a ∈ f, G a = none) : Le G (frzG H G f) := fun a o e => by
  unfold frzG
  by_cases m : a ∈ f
  · rw [n a m] at e; cases e
  · rw [if_neg m]; exact e
mutual
theorem RM.rp {K : PySem.W.Frag} {H G G' : Hp} (l : Le G G') : ∀ {v : V} {x : Mu} {f : List Addr}, RM K H G v x f → (∀ a ∈ f, ∀ o, H a = some o → G' a = some o) → Rp K G' v x.toD
  | _, _, _, .d r, _ => by simpa [Mu.toD] using r.mono l
  | _, _, _, .l e r _, h => by
    simp only [Mu.toD]
    exact .lst (.inl (.inl (h _ (List.mem_cons_self ..) _ e))) (RMs.rp l r fun a m => h a (List.mem_cons_of_mem _ m))
  | _, _, _, .k e r _, h => by
    simp only [Mu.toD]
    exact .dic (.inl (h _ (List.mem_cons_self ..) _ e)) (RMk.rp l r fun a m => h a (List.mem_cons_of_mem _ m))
theorem RMs.rp {K : PySem.W.Frag} {H G G' : Hp} (l : Le G G') : ∀ {v : List V} {x : List Mu} {f : List Addr}, RMs K H G v x f → (∀ a ∈ f, ∀ o, H a = some o → G' a = some o) → RpAll K G' v (Mu.toDs x)
  | _, _, _, .nil, _ => .nil
  | _, _, _, .cons r s _, h => .cons (RM.rp l r fun a m => h a (List.mem_append_left _ m)) (RMs.rp l s fun a m => h a (List.mem_append_right _ m))
theorem RMk.rp {K : PySem.W.Frag} {H G G' : Hp} (l : Le G G') : ∀ {v : List (Key × V)} {x : List (D × Mu)} {f : List Addr}, RMk K H G v x f → (∀ a ∈ f, ∀ o, H a = some o → G' a = some o) → RpKv K G' v (Mu.toDk x)
  | _, _, _, .nil, _ => .nil
  | _, _, _, .cons r s _, h => .cons (RM.rp l r fun a m => h a (List.mem_append_left _ m)) (RMk.rp l s fun a m => h a (List.mem_append_right _ m))
end
theorem RMs.length {K : PySem.W.Frag} {H G : Hp} : ∀ {vs : List V} {xs : List Mu} {f : List Addr}, RMs K H G vs xs f → vs.length = xs.length
  | _, _, _, .nil => rfl
  | _, _, _, .cons _ s _ => by simp [RMs.length s]
theorem RMs.append {K : PySem.W.Frag} {H G : Hp} : ∀ {vs ws : List V} {xs ys : List Mu} {f g : List Addr}, RMs K H G vs xs f → RMs K H G ws ys g → (∀ a ∈ f, a ∉ g) → RMs K H G (vs ++ ws) (xs ++ ys) (f ++ g)
  | _, _, _, _, _, _, .nil, h, _ => h
  | _, _, _, _, _, _, .cons (f := f1) (g := g1) r s n, h, d => by
    have := RMs.cons r (s.append h fun a m => d a (List.mem_append_right _ m)) (fun a m q => by
      rcases List.mem_append.mp q with q | q
      · exact n a m q
      · exact d a (List.mem_append_left _ m) q)
    simpa [List.append_assoc] using this
theorem RMs.ofAll {K : PySem.W.Frag} {H G : Hp} : ∀ {vs : List V} {xs : List D}, RpAll K G vs xs → RMs K H G vs (xs.map .d) []
  | _, _, .nil => .nil
  | _, _, .cons r s => RMs.cons (f := []) (g := []) (.d r) (RMs.ofAll s) (fun _ h => nomatch h)
/-- the i-th item, if it is frozen -/
theorem RMs.get {K : PySem.W.Frag} {H G : Hp} : ∀ {vs : List V} {xs : List Mu} {f : List Addr} {i : Nat} {x : D}, RMs K H G vs xs f → xs[i]? = some (.d x) → ∃ v, vs[i]? = some v ∧ Rp K G v x
  | _, _, _, _, _, .nil, h => by simp at h
  | _, _, _, 0, _, .cons r _ _, h => by
    simp at h; subst h
    cases r with
    | d r => exact ⟨_, rfl, r⟩
  | _, _, _, i + 1, x, .cons _ s _, h => by
    obtain ⟨v, h1, h2⟩ := RMs.get (i := i) (x := x) s (by simpa using h)
    exact ⟨v, by simpa using h1, h2⟩
/-- a frozen thing put at i: the addresses that stood there are let go -/
theorem RMs.set {K : PySem.W.Frag} {H G : Hp} : ∀ {vs : List V} {xs : List Mu} {f : List Addr} (i : Nat) {v : V} {x : D}, RMs K H G vs xs f → Rp K G v x → ∃ g, RMs K H G (vs.set i v) (xs.set i (.d x)) g ∧ ∀ a ∈ g, a ∈ f
  | _, _, _, _, _, _, .nil, _ => ⟨[], .nil, fun _ h => h⟩
  | _, _, _, 0, _, _, .cons (g := g) _ s _, q => ⟨g, by simpa using RMs.cons (f := []) (.d q) s (fun _ h => nomatch h), fun a m => List.mem_append_right _ m⟩
  | _, _, _, i + 1, _, _, .cons (f := f) r s n, q => by
    obtain ⟨g, h1, h2⟩ := RMs.set i s q
    refine ⟨f ++ g, .cons r h1 fun a m q => n a m (h2 a q), fun a m => ?_⟩
    rcases List.mem_append.mp m with m | m
    · exact List.mem_append_left _ m
    · exact List.mem_append_right _ (h2 a m)
end N
/-! N2: states, steps, what is wanted behind a piece of code. -/
namespace N
open PySem PySem.Spec PyProof.Rows L2

/-- the running program: the written part, the defs, the code tables, the classes' addresses -/
structure Wd where
  K : PySem.W.Frag
  P : Pg
  tabs : List (Addr × Addr)
  ca : Str → Addr
abbrev Fp := Nat → List Addr
def SlotOk (K : PySem.W.Frag) (pv : V) (H G : Hp) (ov : Option (Option V)) (s : Slot) (f : List Addr) : Prop := match s with
  | .u => True
  | .d x => ∃ v, ov = some (some v) ∧ Rp K G v x
  | .m p x => ∃ v, ov = some (some v) ∧ RM K H G v x f ∧ (p = true → v = pv)
structure StOk (w : Wd) (pv : V) (σa : En) (σ : L2.St) (H G : Hp) (F : Fp) : Prop where
  len : σa.length = σ.length
  sub : Le G H
  slot : ∀ i s, σa[i]? = some s → SlotOk w.K pv H G σ[i]? s (F i)
  disj : ∀ i j, i ≠ j → ∀ a ∈ F i, a ∉ F j
  free : ∀ i, ∀ a ∈ F i, G a = none
  there : ∀ i, ∀ a ∈ F i, ∃ o, H a = some o ∧ Mut (some o)
  tab : ∀ p ∈ w.tabs, GxR.TabG H p.2 ∧ G p.2 = none
structure Step (w : Wd) (H G : Hp) (F : Fp) (H' G' : Hp) (F' : Fp) : Prop where
  gle : Le G G'
  keep : ∀ a o, H a = some o → (∀ i, a ∉ F i) → (∀ p ∈ w.tabs, p.2 ≠ a) → H' a = some o ∧ (G a = none → G' a = none)
  fresh : ∀ i a, a ∈ F' i → (∃ j, a ∈ F j) ∨ H a = none
  tabk : ∀ p ∈ w.tabs, H p.2 ≠ none → H' p.2 ≠ none
section
variable {w : Wd} {pv : V} {σa : En} {σ : L2.St} {H G H1 G1 H2 G2 : Hp} {F F1 F2 : Fp}
theorem Step.refl (w : Wd) (H G : Hp) (F : Fp) : Step w H G F H G F := ⟨.refl G, fun _ _ e _ _ => ⟨e, fun h => h⟩, fun i a m => .inl ⟨i, m⟩, fun _ _ h => h⟩
theorem Step.trans (a : Step w H G F H1 G1 F1) (b : Step w H1 G1 F1 H2 G2 F2) : Step w H G F H2 G2 F2 := by
  refine ⟨a.gle.trans b.gle, fun x o e n t => ?_, fun i x m => ?_, fun p hp h => b.tabk p hp (a.tabk p hp h)⟩
  · obtain ⟨e1, g1⟩ := a.keep x o e n t
    obtain ⟨e2, g2⟩ := b.keep x o e1 (fun i m => by
      rcases a.fresh i x m with ⟨j, q⟩ | q
      · exact n j q
      · rw [e] at q; cases q) t
    exact ⟨e2, fun h => g2 (g1 h)⟩
  · rcases b.fresh i x m with ⟨j, q⟩ | q
    · exact a.fresh j x q
    · cases h : H x with
      | none => exact .inr rfl
      | some o =>
        by_cases hF : ∃ j, x ∈ F j
        · exact .inl hF
        · by_cases ht : ∀ p ∈ w.tabs, p.2 ≠ x
          · rw [(a.keep x o h (fun i m => hF ⟨i, m⟩) ht).1] at q; cases q
          · exact absurd (fun p hp => by
              intro e
              subst e
              exact a.tabk p hp (by rw [h]; intro z; cases z) q) ht
/-- the owned addresses may be told otherwise, if they are fewer -/
theorem Step.less (a : Step w H G F H1 G1 F1) (h : ∀ i x, x ∈ F2 i → ∃ j, x ∈ F1 j) : Step w H G F H1 G1 F2 :=
  ⟨a.gle, a.keep, fun i x m => by obtain ⟨j, q⟩ := h i x m; exact a.fresh j x q, a.tabk⟩
/-- what is behind an exception -/
structure ExOk (w : Wd) (H G : Hp) : Prop where
  sub : Le G H
  tab : ∀ p ∈ w.tabs, GxR.TabG H p.2 ∧ G p.2 = none
theorem StOk.ex (s : StOk w pv σa σ H G F) : ExOk w H G := ⟨s.sub, s.tab⟩
theorem StOk.tabNe (s : StOk w pv σa σ H G F) {a : Addr} {o : HO} (e : H a = some o) (n : ∀ q, o ≠ .tbl q) : ∀ p ∈ w.tabs, p.2 ≠ a := fun p hp z => by
  obtain ⟨⟨ps, q, _⟩, _⟩ := s.tab p hp
  rw [z, e] at q
  exact n _ (Option.some.inj q)

/-! ### wanted behind a piece of code -/
abbrev Ko (α : Type) := α → Hp → Hp → Fp → Prop
def Post {α : Type} (w : Wd) (H G : Hp) (F : Fp) (r : Res α) (k : Ko α) (x : Str → Hp → Prop) : Prop := match r with
  | .ok a => ∀ H' G' F', Step w H G F H' G' F' → k a H' G' F'
  | .exc c => ∀ H' G' F', Step w H G F H' G' F' → ExOk w H' G' → x c H'
  | .bad => False
theorem Post.step {α : Type} {r : Res α} {k : Ko α} {x : Str → Hp → Prop} (h : Post w H G F r k x) (s : Step w H G F H1 G1 F1) : Post w H1 G1 F1 r k x := by
  cases r with
  | ok a => exact fun H' G' F' t => h H' G' F' (s.trans t)
  | exc c => exact fun H' G' F' t => h H' G' F' (s.trans t)
  | bad => exact h
theorem Post.bind {α β : Type} {r : Res α} {f : α → Res β} {k : Ko β} {x : Str → Hp → Prop} (h : Post w H G F (r.bind f) k x) : Post w H G F r (fun a H' G' F' => Post w H' G' F' (f a) k x) x := by
  cases r with
  | ok a => exact fun H' G' F' t => Post.step (r := f a) h t
  | exc c => exact h
  | bad => exact h
theorem Post.imp {α : Type} {r : Res α} {k k' : Ko α} {x x' : Str → Hp → Prop} (h : Post w H G F r k x) (i : ∀ a H' G' F', r = .ok a → Step w H G F H' G' F' → k a H' G' F' → k' a H' G' F') (j : ∀ c H', x c H' → x' c H') : Post w H G F r k' x' := by
  cases r with
  | ok a => exact fun H' G' F' t => i a H' G' F' rfl t (h H' G' F' t)
  | exc c => exact fun H' G' F' t e => j c H' (h H' G' F' t e)
  | bad => exact h
theorem Post.then {α β : Type} {r : Res α} {f : α → Res β} {k : Ko β} {k' : Ko α} {x : Str → Hp → Prop} (h : Post w H G F (r.bind f) k x) (i : ∀ a H' G' F', r = .ok a → Step w H G F H' G' F' → Post w H' G' F' (f a) k x → k' a H' G' F') : Post w H G F r k' x :=
  h.bind.imp i fun _ _ z => z
theorem Post.here {α : Type} {a : α} {k : Ko α} {x : Str → Hp → Prop} (h : Post w H G F (.ok a) k x) : k a H G F := h H G F (.refl ..)
theorem Post.ofO {α β : Type} {o : Option α} {f : α → Res β} {k : Ko β} {x : Str → Hp → Prop} (h : Post w H G F ((ofO o).bind f) k x) : ∃ a, o = some a ∧ Post w H G F (f a) k x := by
  cases o with
  | none => exact h.elim
  | some a => exact ⟨a, rfl, h⟩

/-! ### a new object, an object changed -/
theorem StOk.newNe (s : StOk w pv σa σ H G F) {p : Addr} (hp : H p = none) : (∀ i, p ∉ F i) ∧ G p = none ∧ ∀ q ∈ w.tabs, q.2 ≠ p := by
  refine ⟨fun i m => ?_, ?_, fun q hq z => ?_⟩
  · obtain ⟨o, e, _⟩ := s.there i p m
    rw [hp] at e; cases e
  · cases h : G p with
    | none => rfl
    | some o => rw [s.sub p o h] at hp; cases hp
  · obtain ⟨⟨ps, e, _⟩, _⟩ := s.tab q hq
    rw [z, hp] at e; cases e
theorem SlotOk.mono {K : PySem.W.Frag} {ov : Option (Option V)} {s : Slot} {f : List Addr} (h : SlotOk K pv H G ov s f) (l : Le G G1) (e : ∀ a ∈ f, H1 a = H a) : SlotOk K pv H1 G1 ov s f := by
  cases s with
  | u => trivial
  | d x => obtain ⟨v, e1, r⟩ := h; exact ⟨v, e1, r.mono l⟩
  | m p x => obtain ⟨v, e1, r, q⟩ := h; exact ⟨v, e1, r.frame l e, q⟩
theorem tabG_upd {p q : Addr} {o : HO} (h : GxR.TabG H q) (ne : q ≠ p) : GxR.TabG (upd H p o) q := by
  obtain ⟨ps, e, t⟩ := h
  exact ⟨ps, by rw [upd_ne ne]; exact e, t⟩
/-- a new frozen object -/
theorem StOk.alloc (s : StOk w pv σa σ H G F) {p : Addr} (hp : H p = none) (o : HO) : StOk w pv σa σ (upd H p o) (upd G p o) F ∧ Step w H G F (upd H p o) (upd G p o) F := by
  obtain ⟨n1, n2, n3⟩ := s.newNe hp
  have l : Le G (upd G p o) := Le.upd n2
  refine ⟨⟨s.len, fun a u e => ?_, fun i x e => (s.slot i x e).mono l fun a m => upd_ne (fun z => n1 i (by rw [← z]; exact m)), s.disj, fun i a m => ?_, fun i a m => ?_, fun q hq => ?_⟩, ⟨l, fun a u e n t => ?_, fun i a m => .inl ⟨i, m⟩, fun q hq h => ?_⟩⟩
  · by_cases h : a = p
    · subst h; rw [upd_same] at e ⊢; exact e
    · rw [upd_ne h] at e ⊢; exact s.sub a u e
  · have ne : a ≠ p := fun z => n1 i (by rw [← z]; exact m)
    rw [upd_ne ne]; exact s.free i a m
  · obtain ⟨u, e, mu⟩ := s.there i a m
    have ne : a ≠ p := fun z => n1 i (by rw [← z]; exact m)
    exact ⟨u, by rw [upd_ne ne]; exact e, mu⟩
  · exact ⟨tabG_upd (s.tab q hq).1 (n3 q hq), by rw [upd_ne (n3 q hq)]; exact (s.tab q hq).2⟩
  · have h : a ≠ p := fun z => by rw [z, hp] at e; cases e
    exact ⟨by rw [upd_ne h]; exact e, fun z => by rw [upd_ne h]; exact z⟩
  · rw [upd_ne (n3 q hq)]; exact h
/-- a new owned object, put into slot i -/
theorem StOk.putO (s : StOk w pv σa σ H G F) {i : Nat} {v : V} {m : Mu} {f : List Addr} {H1 G1 : Hp} {F0 : Fp} (st : Step w H G F H1 G1 F0) (s1 : StOk w pv σa σ H1 G1 F0) (r : RM w.K H1 G1 v m f)
    (d : ∀ j, ∀ a ∈ F0 j, a ∉ f) (fr : ∀ a ∈ f, G1 a = none) (new : ∀ a ∈ f, (∃ j, a ∈ F j) ∨ H a = none) (tb : ∀ q ∈ w.tabs, q.2 ∉ f) :
    StOk w pv (σa.set i (.m false m)) (σ.set i (some v)) H1 G1 (fun j => if j = i then f else F0 j) ∧ Step w H G F H1 G1 (fun j => if j = i then f else F0 j) := by
  refine ⟨⟨by simp [s.len], s1.sub, fun j x e => ?_, fun j k n a m => ?_, fun j a m => ?_, fun j a m => ?_, s1.tab⟩, ⟨st.gle, st.keep, fun j a m => ?_, st.tabk⟩⟩
  · by_cases h : j = i
    · subst h
      rw [List.getElem?_set] at e
      simp only [if_true] at e
      split at e
      · rename_i hl
        cases e
        exact ⟨v, by rw [List.getElem?_set_self (by rw [← s.len]; exact hl)], by simpa using r, fun z => by cases z⟩
      · cases e
    · rw [List.getElem?_set_ne (Ne.symm h)] at e ⊢
      simp only [if_neg h]
      exact s1.slot j x e
  · by_cases h : j = i
    · by_cases h' : k = i
      · exact absurd (h.trans h'.symm) n
      · rw [if_pos h] at m; rw [if_neg h']
        exact fun z => d k a z m
    · rw [if_neg h] at m
      by_cases h' : k = i
      · rw [if_pos h']; exact d j a m
      · rw [if_neg h']; exact s1.disj j k n a m
  · by_cases h : j = i
    · rw [if_pos h] at m; exact fr a m
    · rw [if_neg h] at m; exact s1.free j a m
  · by_cases h : j = i
    · rw [if_pos h] at m; exact r.there a m
    · rw [if_neg h] at m; exact s1.there j a m
  · by_cases h : j = i
    · rw [if_pos h] at m; exact new a m
    · rw [if_neg h] at m; exact st.fresh j a m
/-- slot i holds frozen data -/
theorem StOk.putD (s : StOk w pv σa σ H G F) {i : Nat} {v : V} {x : D} (r : Rp w.K G v x) : StOk w pv (σa.set i (.d x)) (σ.set i (some v)) H G (fun j => if j = i then [] else F j) ∧ Step w H G F H G (fun j => if j = i then [] else F j) := by
  refine ⟨⟨by simp [s.len], s.sub, fun j y e => ?_, fun j k n a m => ?_, fun j a m => ?_, fun j a m => ?_, s.tab⟩, ⟨.refl G, fun _ _ e _ _ => ⟨e, fun h => h⟩, fun j a m => ?_, fun _ _ h => h⟩⟩
  · by_cases h : j = i
    · subst h
      rw [List.getElem?_set] at e
      simp only [if_true] at e
      split at e
      · rename_i hl
        cases e
        exact ⟨v, by rw [List.getElem?_set_self (by rw [← s.len]; exact hl)], r⟩
      · cases e
    · rw [List.getElem?_set_ne (Ne.symm h)] at e ⊢
      simp only [if_neg h]
      exact s.slot j y e
  · by_cases h : j = i
    · rw [if_pos h] at m; exact absurd m (by simp)
    · rw [if_neg h] at m
      by_cases h' : k = i
      · rw [if_pos h']; simp
      · rw [if_neg h']; exact s.disj j k n a m
  · by_cases h : j = i
    · rw [if_pos h] at m; exact absurd m (by simp)
    · rw [if_neg h] at m; exact s.free j a m
  · by_cases h : j = i
    · rw [if_pos h] at m; exact absurd m (by simp)
    · rw [if_neg h] at m; exact s.there j a m
  · by_cases h : j = i
    · rw [if_pos h] at m; exact absurd m (by simp)
    · rw [if_neg h] at m; exact .inl ⟨j, m⟩
/-- slot i is forgotten -/
theorem StOk.wipe1 (s : StOk w pv σa σ H G F) (i : Nat) : StOk w pv (σa.set i .u) σ H G (fun j => if j = i then [] else F j) := by
  refine ⟨by simp [s.len], s.sub, fun j y e => ?_, fun j k n a m => ?_, fun j a m => ?_, fun j a m => ?_, s.tab⟩
  · by_cases h : j = i
    · subst h
      rw [List.getElem?_set] at e
      simp only [if_true] at e
      split at e
      · cases e; trivial
      · cases e
    · rw [List.getElem?_set_ne (Ne.symm h)] at e
      simp only [if_neg h]
      exact s.slot j y e
  · by_cases h : j = i
    · rw [if_pos h] at m; exact absurd m (by simp)
    · rw [if_neg h] at m
      by_cases h' : k = i
      · rw [if_pos h']; simp
      · rw [if_neg h']; exact s.disj j k n a m
  · by_cases h : j = i
    · rw [if_pos h] at m; exact absurd m (by simp)
    · rw [if_neg h] at m; exact s.free j a m
  · by_cases h : j = i
    · rw [if_pos h] at m; exact absurd m (by simp)
    · rw [if_neg h] at m; exact s.there j a m
/-- the slots of a list are forgotten, in both -/
def wipeF (F : Fp) (is : List Nat) : Fp := fun j => if j ∈ is then [] else F j
theorem wipeE_get {σa : En} {j : Nat} : ∀ {is : List Nat} {s : Slot}, (wipeE σa is)[j]? = some s → (j ∈ is ∧ s = .u) ∨ (j ∉ is ∧ σa[j]? = some s)
  | [], s, h => .inr ⟨by simp, h⟩
  | i :: is, s, h => by
    unfold wipeE at h
    by_cases hj : i = j
    · subst hj
      rw [List.getElem?_set] at h
      simp only [if_true] at h
      split at h
      · cases h; exact .inl ⟨by simp, rfl⟩
      · cases h
    · rw [List.getElem?_set_ne hj] at h
      rcases wipeE_get h with ⟨m, e⟩ | ⟨m, e⟩
      · exact .inl ⟨List.mem_cons_of_mem _ m, e⟩
      · exact .inr ⟨by simp only [List.mem_cons, not_or]; exact ⟨fun z => hj z.symm, m⟩, e⟩
theorem wipeE_length (σa : En) : ∀ is : List Nat, (wipeE σa is).length = σa.length
  | [] => rfl
  | i :: is => by unfold wipeE; rw [List.length_set, wipeE_length σa is]
theorem StOk.wipeA (s : StOk w pv σa σ H G F) (is : List Nat) : StOk w pv (wipeE σa is) σ H G (wipeF F is) := by
  refine ⟨by rw [wipeE_length]; exact s.len, s.sub, fun j y e => ?_, fun j k n a m => ?_, fun j a m => ?_, fun j a m => ?_, s.tab⟩
  · rcases wipeE_get e with ⟨m, z⟩ | ⟨m, z⟩
    · subst z; trivial
    · unfold wipeF; rw [if_neg m]; exact s.slot j y z
  · unfold wipeF at m ⊢
    by_cases h : j ∈ is
    · rw [if_pos h] at m; exact absurd m (by simp)
    · rw [if_neg h] at m
      by_cases h' : k ∈ is
      · rw [if_pos h']; simp
      · rw [if_neg h']; exact s.disj j k n a m
  · unfold wipeF at m
    by_cases h : j ∈ is
    · rw [if_pos h] at m; exact absurd m (by simp)
    · rw [if_neg h] at m; exact s.free j a m
  · unfold wipeF at m
    by_cases h : j ∈ is
    · rw [if_pos h] at m; exact absurd m (by simp)
    · rw [if_neg h] at m; exact s.there j a m
theorem wipeF_less {F : Fp} {is : List Nat} : ∀ i x, x ∈ wipeF F is i → ∃ j, x ∈ F j := fun i x m => by
  unfold wipeF at m
  split at m
  · exact absurd m (by simp)
  · exact ⟨i, m⟩
/-- the concrete slots of a block's own names forgotten -/
theorem wipe_get {σ : L2.St} {j : Nat} : ∀ {is : List Nat}, j ∉ is → (L2.wipe σ is)[j]? = σ[j]?
  | [], _ => rfl
  | i :: is, h => by
    unfold L2.wipe
    have h1 : i ≠ j := fun z => h (by simp [z])
    rw [List.getElem?_set_ne h1]
    exact wipe_get fun m => h (List.mem_cons_of_mem _ m)
theorem StOk.wipeB (s : StOk w pv σa σ H G F) (is : List Nat) : StOk w pv (wipeE σa is) (L2.wipe σ is) H G (wipeF F is) := by
  have q := s.wipeA is
  refine ⟨by rw [q.len, L2.wipe_length], q.sub, fun j y e => ?_, q.disj, q.free, q.there, q.tab⟩
  rcases wipeE_get e with ⟨m, z⟩ | ⟨m, z⟩
  · subst z; trivial
  · rw [wipe_get m]; exact q.slot j y e
/-- an owned object at slot j changed: from a tree to a tree -/
theorem StOk.write (s : StOk w pv σa σ H G F) {j : Nat} {p : Bool} {m m' : Mu} {v : V} {f : List Addr} {H1 : Hp} (e : σa[j]? = some (.m p m)) (ev : σ[j]? = some (some v)) (hv : p = true → v = pv)
    (k : ∀ a, a ∉ F j → H1 a = H a) (r : RM w.K H1 G v m' f) (hf : ∀ a ∈ f, a ∈ F j) :
    StOk w pv (σa.set j (.m p m')) σ H1 G (fun i => if i = j then f else F i) ∧ Step w H G F H1 G (fun i => if i = j then f else F i) := by
  have tne : ∀ q ∈ w.tabs, q.2 ∉ F j := fun q hq z => by
    obtain ⟨⟨ps, e1, _⟩, _⟩ := s.tab q hq
    obtain ⟨o, e2, mu⟩ := s.there j _ z
    rw [e1] at e2; cases e2; exact mu
  refine ⟨⟨by simp [s.len], fun a o h => ?_, fun i y h => ?_, fun i i' n a ma => ?_, fun i a ma => ?_, fun i a ma => ?_, fun q hq => ?_⟩, ⟨.refl G, fun a o h n t => ?_, fun i a ma => ?_, fun q hq h => ?_⟩⟩
  · rw [k a fun z => by rw [s.free j a z] at h; cases h]; exact s.sub a o h
  · by_cases hi : i = j
    · subst hi
      rw [List.getElem?_set] at h
      simp only [if_true] at h
      split at h
      · cases h
        exact ⟨v, ev, by simpa using r, hv⟩
      · cases h
    · rw [List.getElem?_set_ne (Ne.symm hi)] at h
      simp only [if_neg hi]
      exact (s.slot i y h).mono (.refl G) fun a ma => k a fun z => s.disj i j hi a ma z
  · by_cases h : i = j
    · rw [if_pos h] at ma
      by_cases h' : i' = j
      · exact absurd (h.trans h'.symm) n
      · rw [if_neg h']; exact s.disj j i' (fun z => h' z.symm) a (hf a ma)
    · rw [if_neg h] at ma
      by_cases h' : i' = j
      · rw [if_pos h']; exact fun z => s.disj i j h a ma (hf a z)
      · rw [if_neg h']; exact s.disj i i' n a ma
  · by_cases h : i = j
    · rw [if_pos h] at ma; exact s.free j a (hf a ma)
    · rw [if_neg h] at ma; exact s.free i a ma
  · by_cases h : i = j
    · rw [if_pos h] at ma; exact r.there a ma
    · rw [if_neg h] at ma
      rw [k a fun z => s.disj i j h a ma z]; exact s.there i a ma
  · obtain ⟨⟨ps, e1, t1⟩, g⟩ := s.tab q hq
    exact ⟨⟨ps, by rw [k _ (tne q hq)]; exact e1, t1⟩, g⟩
  · exact ⟨by rw [k a (n j)]; exact h, fun z => z⟩
  · by_cases h : i = j
    · rw [if_pos h] at ma; exact .inl ⟨j, hf a ma⟩
    · rw [if_neg h] at ma; exact .inl ⟨i, ma⟩
  · rw [k _ (tne q hq)]; exact h
/-- the tree at slot j frozen -/
theorem StOk.freeze (s : StOk w pv σa σ H G F) {j : Nat} {p : Bool} {m : Mu} (e : σa[j]? = some (.m p m)) :
    ∃ v, σ[j]? = some (some v) ∧ ∃ G1, Rp w.K G1 v m.toD ∧ StOk w pv (σa.set j (.d m.toD)) σ H G1 (fun i => if i = j then [] else F i) ∧ Step w H G F H G1 (fun i => if i = j then [] else F i) := by
  obtain ⟨v, ev, r, _⟩ := s.slot j _ e
  have l : Le G (frzG H G (F j)) := frzG_le (s.free j)
  have rp : Rp w.K (frzG H G (F j)) v m.toD := r.rp l fun a ma o h => by unfold frzG; rw [if_pos ma]; exact h
  refine ⟨v, ev, frzG H G (F j), rp, ⟨by simp [s.len], fun a o h => ?_, fun i y h => ?_, fun i i' n a ma => ?_, fun i a ma => ?_, fun i a ma => ?_, fun q hq => ?_⟩, ⟨l, fun a o h n t => ⟨h, fun z => ?_⟩, fun i a ma => ?_, fun _ _ h => h⟩⟩
  · unfold frzG at h
    by_cases ma : a ∈ F j
    · rw [if_pos ma] at h; exact h
    · rw [if_neg ma] at h; exact s.sub a o h
  · by_cases hi : i = j
    · subst hi
      rw [List.getElem?_set] at h
      simp only [if_true] at h
      split at h
      · cases h; exact ⟨v, ev, rp⟩
      · cases h
    · rw [List.getElem?_set_ne (Ne.symm hi)] at h
      simp only [if_neg hi]
      exact (s.slot i y h).mono l fun a ma => rfl
  · by_cases h : i = j
    · rw [if_pos h] at ma; exact absurd ma (by simp)
    · rw [if_neg h] at ma
      by_cases h' : i' = j
      · rw [if_pos h']; simp
      · rw [if_neg h']; exact s.disj i i' n a ma
  · by_cases h : i = j
    · rw [if_pos h] at ma; exact absurd ma (by simp)
    · rw [if_neg h] at ma
      unfold frzG
      rw [if_neg fun z => s.disj i j h a ma z]
      exact s.free i a ma
  · by_cases h : i = j
    · rw [if_pos h] at ma; exact absurd ma (by simp)
    · rw [if_neg h] at ma; exact s.there i a ma
  · refine ⟨(s.tab q hq).1, ?_⟩
    unfold frzG
    rw [if_neg fun z => ?_]
    · exact (s.tab q hq).2
    · obtain ⟨⟨ps, e1, _⟩, _⟩ := s.tab q hq
      obtain ⟨o, e2, mu⟩ := s.there j _ z
      rw [e1] at e2; cases e2; exact mu
  · unfold frzG
    rw [if_neg (n j)]; exact z
  · by_cases h : i = j
    · rw [if_pos h] at ma; exact absurd ma (by simp)
    · rw [if_neg h] at ma; exact .inl ⟨i, ma⟩
end
end N
/-! N3: operators, comparisons, subscripts, built-ins: what they give of frozen data. -/
namespace N
open PySem PySem.Spec PyProof.Rows L2

def opB : BOp → Operator
  | .add => .Add
  | .sub => .Sub
  | .mul => .Mult
  | .fdiv => .FloorDiv
  | .mod => .Mod
  | .pow => .Pow
def opC : COp → CmpOp
  | .eq => .Eq
  | .ne => .NotEq
  | .lt => .Lt
  | .le => .LtE
  | .gt => .Gt
  | .ge => .GtE
  | .isin => .In
  | .notin => .NotIn
  | .is => .Is
  | .isnot => .IsNot
theorem line_eq : LINE = sizeLine := by rw [sizeLine_eq]

section
variable {X : Cx}
/-- a rule from what an operation gives of two values -/
theorem opV {f : Value → Value → Sem Value} {a b c : V}
    (rule : ∀ (x y : Value) (s : Shared) (Q : Value → Shared → Prop) (E : Value → Shared → Prop), RelV a x → RelV b y → (∀ z tk, RelV c z → Q z { s with toks := tk }) → wpAny (model X.prog X.w) X.A (f x y) Q E s) :
    OpR X f (fun x y H Q => x = a ∧ y = b ∧ Q c H) := fun pn st sg hp x y u t Q iv rx ry h => by
  obtain ⟨rfl, rfl, q⟩ := h
  exact rule u t st _ _ rx ry fun z tk rz => ⟨c, hp, iv.tok tk, rz, q⟩
theorem opAddIB {i : Int} {k : Bool} : OpR X (binaryOp .Add) (fun x y H Q => x = .int i ∧ y = .bl k ∧ Q (.int (i + b2 k)) H) :=
  opV fun x y s Q E rx ry h => by obtain ⟨t, rfl⟩ := rx; cases ry; exact add_int_bool (h _ _ ⟨_, rfl⟩)
theorem opAddBI {i : Int} {k : Bool} : OpR X (binaryOp .Add) (fun x y H Q => x = .bl k ∧ y = .int i ∧ Q (.int (b2 k + i)) H) :=
  opV fun x y s Q E rx ry h => by obtain ⟨t, rfl⟩ := ry; cases rx; exact PySem.IntBool.add_bool_int (h _ _ ⟨_, rfl⟩)
theorem opAddBB {i k : Bool} : OpR X (binaryOp .Add) (fun x y H Q => x = .bl i ∧ y = .bl k ∧ Q (.int (b2 i + b2 k)) H) :=
  opV fun x y s Q E rx ry h => by cases ry; cases rx; exact add_bool (h _ _ ⟨_, rfl⟩)
theorem opSubIB {i : Int} {k : Bool} : OpR X (binaryOp .Sub) (fun x y H Q => x = .int i ∧ y = .bl k ∧ Q (.int (i - b2 k)) H) :=
  opV fun x y s Q E rx ry h => by obtain ⟨t, rfl⟩ := rx; cases ry; exact PySem.IntBool.sub_int_bool (h _ _ ⟨_, rfl⟩)
theorem opSubBI {i : Int} {k : Bool} : OpR X (binaryOp .Sub) (fun x y H Q => x = .bl k ∧ y = .int i ∧ Q (.int (b2 k - i)) H) :=
  opV fun x y s Q E rx ry h => by obtain ⟨t, rfl⟩ := ry; cases rx; exact PySem.IntBool.sub_bool_int (h _ _ ⟨_, rfl⟩)
theorem opSubBB {i k : Bool} : OpR X (binaryOp .Sub) (fun x y H Q => x = .bl i ∧ y = .bl k ∧ Q (.int (b2 i - b2 k)) H) :=
  opV fun x y s Q E rx ry h => by cases ry; cases rx; exact sub_bool (h _ _ ⟨_, rfl⟩)
theorem opMulIB {i : Int} {k : Bool} : OpR X (binaryOp .Mult) (fun x y H Q => x = .int i ∧ y = .bl k ∧ Q (.int (i * b2 k)) H) :=
  opV fun x y s Q E rx ry h => by obtain ⟨t, rfl⟩ := rx; cases ry; exact PySem.IntBool.mul_int_bool (h _ _ ⟨_, rfl⟩)
theorem opMulBI {i : Int} {k : Bool} : OpR X (binaryOp .Mult) (fun x y H Q => x = .bl k ∧ y = .int i ∧ Q (.int (b2 k * i)) H) :=
  opV fun x y s Q E rx ry h => by obtain ⟨t, rfl⟩ := ry; cases rx; exact PySem.IntBool.mul_bool_int (h _ _ ⟨_, rfl⟩)
theorem lst_of {pn : List (Addr × Obj)} {sg : L2.St} {hp : Hp} {st : Shared} {l : Addr} {xs : List V} (iv : Inv X pn sg hp st) (h : SqL X.K hp l xs) :
    xs.length ≤ sizeLine ∧ ∃ (us : List Value) (n : Nat) (sl : Array (Option Value)), Vals xs us ∧ st.heap.get? l = some ⟨.type "list", none, .seq us.toArray n, sl⟩ := by
  obtain ⟨us, r, ⟨o, n, e, c, d, q⟩, z⟩ := iv.list h
  obtain ⟨oc, od, dt, sl⟩ := o
  dsimp only at c d q
  subst c d q
  exact ⟨z, us, n, sl, r, e⟩
/-- list + list, of any slots -/
theorem catMeets (a c : Addr) (us ws : Array Value) (j k : Nat) (sl tl : Array (Option Value)) (hz : us.size + ws.size ≤ sizeLine) :
    Meets (Builtin.«list.__add__» ⟨[.ref a, .ref c], []⟩) (fun _ R s => (s.heap.get? a = some ⟨.type "list", none, .seq us j, sl⟩ ∧ s.heap.get? c = some ⟨.type "list", none, .seq ws k, tl⟩) ∧ R (.ok (.ret (.ref s.heap.objs.size))) { s with heap := s.heap.push { cls := .type "list", data := .seq (us ++ ws) }, toks := s.toks }) :=
  .of_wp fun prog w A R s h => by
    obtain ⟨hp, g, d, tk, os⟩ := s
    obtain ⟨⟨ha, hc⟩, h⟩ := h
    have g1 := AutoSeq1.idx_int
    have g2 := AutoSeq1.sub_tuple_tuple
    have g3 := AutoSeq1.sub_list_list
    have g4 := AutoSeq1.sub_tuple_list
    have g5 := AutoSeq1.sub_list_tuple
    wp_walk using AutoSeq1.wpAny_loadPart' ha, AutoSeq1.wpAny_loadPart' hc
    exact ⟨_, rfl, h⟩
theorem rmulMeets (i : Int) (t : Tok) (a : Addr) (us : Array Value) (j : Nat) (sl : Array (Option Value)) :
    Meets (Builtin.«int.__rmul__» ⟨[.int i t, .ref a], []⟩) (fun _ R s => s.heap.get? a = some ⟨.type "list", none, .seq us j, sl⟩ ∧ R (.ok (.ret Value.notImplemented)) s) :=
  .of_wp fun prog w A R s h => by
    obtain ⟨hp, g, d, tk, os⟩ := s
    obtain ⟨ha, h⟩ := h
    wp_walk
    exact ⟨_, rfl, h⟩
theorem mulMeets (a : Addr) (us : Array Value) (j : Nat) (sl : Array (Option Value)) (i : Int) (t : Tok) (c1 : ¬(!Builtin.List.listFitsIndex i) = true) (c2 : ¬us.size * i.toNat > (2 ^ 63 - 1) / 8) (c3 : ¬Builtin.List.listTooLong (us.size * i.toNat) = true) :
    Meets (Builtin.«list.__mul__» ⟨[.ref a, .int i t], []⟩) (fun _ R s => s.heap.get? a = some ⟨.type "list", none, .seq us j, sl⟩ ∧
      R (.ok (.ret (.ref s.heap.objs.size))) { s with heap := s.heap.push { cls := .type "list", data := .seq (List.foldl (fun x y => x ++ y) #[] (List.replicate (if us.isEmpty = true then 0 else i.toNat) us)) }, toks := s.toks }) :=
  .of_wp fun prog w A R s h => by
    obtain ⟨hp, g, d, tk, os⟩ := s
    obtain ⟨ha, h⟩ := h
    have fits := AutoListH.joined_fits c3
    wp_walk
    refine wpAny_ite_false (decide_eq_false (Nat.not_lt.mpr fits)) ?_
    wp_walk
    exact ⟨_, rfl, h⟩
/-- list + list, both as they are read -/
theorem opCat : OpR X (binaryOp .Add) (fun x y H Q => ∃ l b xs zs, x = .ref l ∧ y = .ref b ∧ SqL X.K H l xs ∧ SqL X.K H b zs ∧ xs.length + zs.length ≤ sizeLine ∧ ∀ p, H p = none → Q (.ref p) (upd H p (.lst (xs ++ zs)))) := by
  intro pn st sg hp x y u t Q iv rx ry h
  obtain ⟨l, b, xs, zs, rfl, rfl, h1, h2, hz, q⟩ := h
  cases rx
  cases ry
  obtain ⟨_, us, n, sl, r, e⟩ := lst_of iv h1
  obtain ⟨_, ws, m, tl, r2, e2⟩ := lst_of iv h2
  have l1 := r.length
  have l2 := r2.length
  refine concat_meets ⟨_, e, rfl⟩ ⟨_, e2, rfl⟩ noFill_list_add seq_list_add F.slot_list_add F.entry_list_add (F.args_list_add_2 _ _) (catMeets l b us.toArray ws.toArray n m sl tl (by simp only [List.size_toArray]; omega)) ⟨⟨e, e2⟩, ?_⟩
  have ea : us.toArray ++ ws.toArray = (us ++ ws).toArray := by simp
  rw [ea]
  exact ⟨.ref _, _, iv.lnew (t' := st.toks) (r.append r2) (by simp only [List.length_append]; omega), rfl, q _ iv.fresh⟩
theorem repeated (us : List Value) (k : Nat) : List.foldl (fun a b => a ++ b) #[] (List.replicate (if us.toArray.isEmpty = true then 0 else k) us.toArray) = (List.replicate k us).flatten.toArray := by
  have f0 : ∀ m : Nat, List.foldl (fun a b => a ++ b) #[] (List.replicate m us.toArray) = (List.replicate m us).flatten.toArray := fun m => by
    have z := foldl_rep us m []
    rw [List.nil_append] at z
    exact z
  rw [f0]
  cases us with
  | nil => simp
  | cons a r => rw [if_neg (by simp)]
/-- list * int, the list as it is read -/
theorem opRep : OpR X (binaryOp .Mult) (fun x y H Q => ∃ l k xs, x = .ref l ∧ y = .int k ∧ SqL X.K H l xs ∧ (-(2 ^ 63) ≤ k ∧ k < 2 ^ 63) ∧ xs.length * k.toNat ≤ sizeLine ∧ ∀ p, H p = none → Q (.ref p) (upd H p (.lst (List.replicate k.toNat xs).flatten))) := by
  intro pn st sg hp x y u t Q iv rx ry h
  obtain ⟨l, k, xs, rfl, rfl, h1, ⟨k1, k2⟩, hz, q⟩ := h
  cases rx
  obtain ⟨tk, rfl⟩ := ry
  obtain ⟨_, us, n, sl, r, e⟩ := lst_of iv h1
  have l1 := r.length
  have c1 : us.toArray.size * k.toNat ≤ sizeLine := by rw [List.size_toArray, ← l1]; exact hz
  have c2 : ¬ us.toArray.size * k.toNat > (2 ^ 63 - 1) / 8 := by
    have : (sizeLine : Nat) ≤ (2 ^ 63 - 1) / 8 := by decide
    omega
  have c3 : ¬ (!Builtin.List.listFitsIndex k) = true := by
    rw [fitsIndex_both k1 k2]; exact Bool.false_ne_true
  have c4 : ¬ Builtin.List.listTooLong (us.toArray.size * k.toNat) = true := by
    rw [notLongL c1]; exact Bool.false_ne_true
  refine wpAny_binaryOp_repeat_ref (T := "list") (U := "int") (by decide) ⟨_, e, rfl⟩ (fun z => typeIs_int z k tk) noFill_list_mul F.fills_int_mul F.slot_int_rmul repeat_list F.slot_int_index.lookup
    (call_meets F.slot_int_rmul (typeIs_int st k tk) F.entry_int_rmul (F.args_int_rmul_2 _ _) (rmulMeets k tk l us.toArray n sl) ⟨e, rfl, ⟨_, e, rfl⟩, ?_⟩)
  refine call_meets F.slot_list_mul ⟨_, e, rfl⟩ F.entry_list_mul (F.args_list_mul_2 _ _) (mulMeets l us.toArray n sl k tk c3 c2 c4) ⟨e, ?_⟩
  rw [repeated us k.toNat]
  exact ⟨.ref _, _, iv.lnew (t' := st.toks) (r.rep k.toNat) (by rw [PyProof.Rows.lm_len_rep_flat, Nat.mul_comm]; exact hz), rfl, q _ iv.fresh⟩
end

section
variable {X : Cx} {w : Wd} {pv : V} {σa : En} {σ : L2.St} {H G : Hp} {F : Fp}
/-- text * int -/
theorem opRepS : OpR X (binaryOp .Mult) (fun x y H Q => ∃ z k, x = .str z ∧ y = .int k ∧ (-(2 ^ 63) ≤ k ∧ k < 2 ^ 63) ∧ z.length * k.toNat ≤ sizeLine ∧ Q (.str ⟨(List.replicate k.toNat z.cps.toList).flatten.toArray⟩) H) := by
  intro pn st sg hp x y u t Q iv rx ry h
  obtain ⟨z, k, rfl, rfl, ⟨k1, k2⟩, hz, q⟩ := h
  obtain ⟨tz, rfl⟩ := rx
  obtain ⟨tk, rfl⟩ := ry
  have hs : sizeLine = 16777216 := sizeLine_eq
  have e1 : decide (k < -(2 ^ 63 : Int)) = false := decide_eq_false (by omega)
  have e2 : decide (k ≥ 2 ^ 63) = false := decide_eq_false (by omega)
  have fold : ∀ (m : Nat) (acc : List Nat), List.foldl (fun a b => a ++ b) acc.toArray (List.replicate m z.cps) = (acc ++ (List.replicate m z.cps.toList).flatten).toArray := by
    intro m
    induction m with
    | zero => intro acc; simp
    | succ m ih =>
      intro acc
      rw [List.replicate_succ, List.foldl_cons, List.replicate_succ, List.flatten_cons]
      have : acc.toArray ++ z.cps = (acc ++ z.cps.toList).toArray := by simp
      rw [this, ih]; simp
  refine PySem.P.mul_str (by rw [e1, e2]; rfl) (fun n1 n2 => ?_) (fun n1 n2 => ?_) ?_
  · have l0 : 0 < z.length := by
      cases hl : z.length with
      | zero => rw [hl] at n2; simp at n2
      | succ m => omega
    have m1 : (z.length : Int) * k ≤ 16777216 := by
      have : ((z.length * k.toNat : Nat) : Int) ≤ 16777216 := by omega
      rw [Int.natCast_mul, Int.toNat_of_nonneg (by omega)] at this
      exact this
    intro hgt
    have hk : 0 < k := by omega
    have q1 : (2 ^ 63 - 1 : Int) / k + 1 ≤ (z.length : Int) := hgt
    have q2 : ((2 ^ 63 - 1 : Int) / k + 1) * k ≤ (z.length : Int) * k := Int.mul_le_mul_of_nonneg_right q1 (by omega)
    have q3 : (2 ^ 63 - 1 : Int) < ((2 ^ 63 - 1 : Int) / k + 1) * k := by
      have a1 := Int.lt_ediv_add_one_mul_self (2 ^ 63 - 1 : Int) hk
      exact a1
    omega
  · have : z.length * k.toNat ≤ 16777216 := by omega
    unfold Builtin.Str.tooLong
    exact decide_eq_false (by omega)
  · by_cases c1 : k < 1
    · rw [if_pos c1]
      have k0 : k.toNat = 0 := by omega
      rw [k0] at q
      exact ⟨Nat.zero_le _, .str _, hp, iv.tok _, ⟨_, rfl⟩, q⟩
    · rw [if_neg c1]
      by_cases c2 : (k == 1 || z.length == 0) = true
      · rw [if_pos c2]
        have e3 : (⟨(List.replicate k.toNat z.cps.toList).flatten.toArray⟩ : Str) = z := by
          rcases Bool.or_eq_true_iff.mp c2 with c | c
          · have : k = 1 := by simpa using c
            subst this
            simp
          · have hl : z.length = 0 := by simpa using c
            have : z.cps.toList = [] := by
              unfold Str.length at hl
              exact List.eq_nil_of_length_eq_zero (by simpa using hl)
            rw [this]
            have f0 : (List.replicate k.toNat ([] : List Nat)).flatten = [] := by simp
            rw [f0]
            cases z with
            | mk cc =>
              have e5 : cc = #[] := by simpa [Str.length] using hl
              rw [e5]
        rw [e3] at q
        exact ⟨.str _, hp, iv, ⟨_, rfl⟩, q⟩
      · rw [if_neg c2]
        have := fold k.toNat []
        simp only [List.nil_append] at this
        have e4 : List.foldl (fun a b => a ++ b) #[] (List.replicate k.toNat z.cps) = (List.replicate k.toNat z.cps.toList).flatten.toArray := this
        rw [e4]
        refine ⟨?_, .str _, hp, iv.tok _, ⟨_, rfl⟩, q⟩
        have e6 : (⟨(List.replicate k.toNat z.cps.toList).flatten.toArray⟩ : Str).length = k.toNat * z.length := by
          simp [Str.length]
        rw [e6, Nat.mul_comm]
        exact hz
/-- what a rule must do: find its reading of frozen data -/
abbrev Fin1 (w : Wd) (pv : V) (σa : En) (σ : L2.St) (H G : Hp) (F : Fp) (z : D) (Q : VK) : Prop := ∀ v H' G', StOk w pv σa σ H' G' F → Step w H G F H' G' F → Rp w.K G' v z → Q v H'
theorem Fin1.flat {z : D} {Q : VK} (q : Fin1 w pv σa σ H G F z Q) (st : StOk w pv σa σ H G F) {v : V} (r : Rp w.K G v z) : Q v H := q v H G st (.refl ..) r
theorem Fin1.new {z : D} {Q : VK} (q : Fin1 w pv σa σ H G F z Q) (st : StOk w pv σa σ H G F) {o : HO} (r : ∀ p, H p = none → Rp w.K (upd G p o) (.ref p) z) : ∀ p, H p = none → Q (.ref p) (upd H p o) := fun p hp =>
  let ⟨a, b⟩ := st.alloc hp o
  q _ _ _ a b (r p hp)
theorem rpLst {K : PySem.W.Frag} {p : Addr} {vs : List V} {ds : List D} (hp : G p = none) (r : RpAll K G vs ds) : Rp K (upd G p (.lst vs)) (.ref p) (.list ds) := .lst (.inl (.inl upd_same)) (r.mono (Le.upd hp))
theorem rpTup {K : PySem.W.Frag} {p : Addr} {vs : List V} {ds : List D} (hp : G p = none) (r : RpAll K G vs ds) : Rp K (upd G p (.tup vs)) (.ref p) (.tuple ds) := .tup (.inl (.inl upd_same)) (r.mono (Le.upd hp))
theorem mulOk_of {a b : Int} (h : mulOk a b = true) : CMul a b ∨ CMulW a b := by
  unfold mulOk at h
  simp only [Bool.or_eq_true, Bool.and_eq_true, decide_eq_true_eq] at h
  rcases h with h | h | h
  · have := inB_of h
    exact .inl (.inl (by constructor <;> omega))
  · have := inB_of h
    exact .inl (.inr (by constructor <;> omega))
  · exact .inr h
theorem divOk_of {b : Int} (h : divOk b = true) (a : Int) : CDivN a b ∨ CDivW a b := by
  unfold divOk at h
  simp only [Bool.or_eq_true, Bool.and_eq_true, decide_eq_true_eq] at h
  obtain ⟨h0, h | h⟩ := h
  · have := inB_of h
    exact .inl ⟨h0, by omega⟩
  · exact .inr h
def BinOk (X : Cx) (w : Wd) (f : Value → Value → Sem Value) (x y z : D) : Prop :=
  ∃ r, OpR X f r ∧ ∀ {pv σa σ H G F v u Q}, StOk w pv σa σ H G F → Rp w.K G v x → Rp w.K G u y → Fin1 w pv σa σ H G F z Q → r v u H Q
theorem rule0 {g : Int → Int → V} {H : Hp} {Q : VK} {a b : Int} {v u : V} (ev : v = .int a) (eu : u = .int b) (q : Q (g a b) H) : rI0 g v u H Q := ⟨a, b, ev, eu, q⟩
theorem rule1 {C : Int → Int → Prop} {g : Int → Int → V} {H : Hp} {Q : VK} {a b : Int} {v u : V} (ev : v = .int a) (eu : u = .int b) (c : C a b) (q : Q (g a b) H) : rI C g v u H Q := ⟨a, b, ev, eu, c, q⟩
theorem add_ok (hK : X.K = w.K) {x y z : D} (h : addD x y = some z) : BinOk X w (binaryOp .Add) x y z := by
  have hs : sizeLine = 16777216 := sizeLine_eq
  have hL : LINE = 16777216 := rfl
  cases x <;> cases y <;> simp only [addD] at h <;> try cases h
  · exact ⟨_, opAddBB, fun st rv ru q => ⟨rv.bl_inv, ru.bl_inv, q.flat st (.int _)⟩⟩
  · exact ⟨_, opAddBI, fun st rv ru q => ⟨rv.bl_inv, ru.int_inv, q.flat st (.int _)⟩⟩
  · exact ⟨_, opAddIB, fun st rv ru q => ⟨rv.int_inv, ru.bl_inv, q.flat st (.int _)⟩⟩
  · exact ⟨_, op_add, fun st rv ru q => rule0 rv.int_inv ru.int_inv (q.flat st (.int _))⟩
  · split at h
    · cases h
      exact ⟨_, op_add_str, fun st rv ru q => ⟨_, _, rv.str_inv, ru.str_inv, by omega, q.flat st (.str _)⟩⟩
    · cases h
  · split at h
    · rename_i hl
      cases h
      refine ⟨_, opCat, fun st rv ru q => ?_⟩
      obtain ⟨a, vs, rfl, s1, r1⟩ := rv.lst_inv
      obtain ⟨b, us, rfl, s2, r2⟩ := ru.lst_inv
      exact ⟨a, b, vs, us, rfl, rfl, (by rw [hK]; exact st.sub.sqL s1), (by rw [hK]; exact st.sub.sqL s2), by rw [r1.length, r2.length]; omega, q.new st fun p hp => rpLst (st.newNe hp).2.1 (r1.append r2)⟩
    · cases h
  · split at h
    · rename_i hl
      cases h
      refine ⟨_, op_catA, fun st rv ru q => ?_⟩
      obtain ⟨a, vs, rfl, s1, r1⟩ := rv.tup_inv
      obtain ⟨b, us, rfl, s2, r2⟩ := ru.tup_inv
      rw [hK]
      refine ⟨a, b, vs, us, rfl, rfl, st.sub.sqT s1, st.sub.sqT s2, by rw [r1.length, r2.length]; omega, fun e => ?_, fun _ e => ?_, fun _ _ => q.new st fun p hp => rpTup (st.newNe hp).2.1 (r1.append r2)⟩
      · subst e
        cases r1
        exact q.flat st ru
      · subst e
        cases r2
        rw [List.append_nil] at q
        exact q.flat st rv
    · cases h
theorem sub_ok {x y z : D} (h : subD x y = some z) : BinOk X w (binaryOp .Sub) x y z := by
  cases x <;> cases y <;> simp only [subD] at h <;> try cases h
  · exact ⟨_, opSubBB, fun st rv ru q => ⟨rv.bl_inv, ru.bl_inv, q.flat st (.int _)⟩⟩
  · exact ⟨_, opSubBI, fun st rv ru q => ⟨rv.bl_inv, ru.int_inv, q.flat st (.int _)⟩⟩
  · exact ⟨_, opSubIB, fun st rv ru q => ⟨rv.int_inv, ru.bl_inv, q.flat st (.int _)⟩⟩
  · exact ⟨_, op_sub, fun st rv ru q => rule0 rv.int_inv ru.int_inv (q.flat st (.int _))⟩
theorem mul_ok (hK : X.K = w.K) {x y z : D} (h : mulD x y = some z) : BinOk X w (binaryOp .Mult) x y z := by
  have hs : sizeLine = 16777216 := sizeLine_eq
  have hL : LINE = 16777216 := rfl
  have rep : ∀ {n : Nat} {k : Int}, repOk n k = true → (-(2 ^ 63) ≤ k ∧ k < 2 ^ 63) ∧ n * k.toNat ≤ sizeLine := fun {n k} e => by
    unfold repOk at e
    simp only [Bool.and_eq_true, decide_eq_true_eq] at e
    have := inB_of e.1
    exact ⟨⟨by omega, by omega⟩, by omega⟩
  cases x <;> cases y <;> simp only [mulD] at h <;> try cases h
  · exact ⟨_, opMulBI, fun st rv ru q => ⟨rv.bl_inv, ru.int_inv, q.flat st (.int _)⟩⟩
  · exact ⟨_, opMulIB, fun st rv ru q => ⟨rv.int_inv, ru.bl_inv, q.flat st (.int _)⟩⟩
  · split at h
    · rename_i c
      cases h
      rcases mulOk_of c with c | c
      · exact ⟨_, op_mul, fun st rv ru q => rule1 rv.int_inv ru.int_inv c (q.flat st (.int _))⟩
      · exact ⟨_, op_mulW, fun st rv ru q => rule1 rv.int_inv ru.int_inv c (q.flat st (.int _))⟩
    · cases h
  · split at h
    · rename_i c
      cases h
      obtain ⟨c1, c2⟩ := rep c
      exact ⟨_, opRepS, fun st rv ru q => ⟨_, _, rv.str_inv, ru.int_inv, c1, c2, q.flat st (.str _)⟩⟩
    · cases h
  · split at h
    · rename_i c
      cases h
      obtain ⟨c1, c2⟩ := rep c
      refine ⟨_, opRep, fun st rv ru q => ?_⟩
      obtain ⟨a, vs, rfl, s1, r1⟩ := rv.lst_inv
      exact ⟨a, _, vs, rfl, ru.int_inv, (by rw [hK]; exact st.sub.sqL s1), c1, by rw [r1.length]; exact c2, q.new st fun p hp => rpLst (st.newNe hp).2.1 (r1.rep _)⟩
    · cases h
theorem fdiv_ok {x y z : D} (h : fdivD x y = some z) : BinOk X w (binaryOp .FloorDiv) x y z := by
  cases x <;> cases y <;> simp only [fdivD] at h <;> try cases h
  rename_i a b
  split at h
  · rename_i c
    cases h
    rcases divOk_of c a with c | c
    · exact ⟨_, op_fdivN, fun st rv ru q => rule1 rv.int_inv ru.int_inv c (q.flat st (.int _))⟩
    · exact ⟨_, op_fdivW, fun st rv ru q => rule1 rv.int_inv ru.int_inv c (by
        have c1 : (0 : Int) < b := c.1
        rw [← Int.fdiv_eq_ediv_of_nonneg a (by omega)]; exact q.flat st (.int _))⟩
  · cases h
theorem mod_ok {x y z : D} (h : modD x y = some z) : BinOk X w (binaryOp .Mod) x y z := by
  cases x <;> cases y <;> simp only [modD] at h <;> try cases h
  split at h
  · cases h
  · rename_i c
    cases h
    exact ⟨_, op_modN, fun st rv ru q => rule1 rv.int_inv ru.int_inv c (q.flat st (.int _))⟩
theorem pow_ok {x y z : D} (h : powD x y = some z) : BinOk X w (binaryOp .Pow) x y z := by
  cases x <;> cases y <;> simp only [powD] at h <;> try cases h
  split at h
  · rename_i c
    cases h
    exact ⟨_, op_pow, fun st rv ru q => rule1 rv.int_inv ru.int_inv ⟨c.1, by have := inB_of c.2.1; omega, c.2.2⟩ (q.flat st (.int _))⟩
  · cases h
theorem bin_ok (hK : X.K = w.K) {o : BOp} {x y z : D} (h : binD o x y = some z) : BinOk X w (binaryOp (opB o)) x y z := by
  cases o with
  | add => exact add_ok hK h
  | sub => exact sub_ok h
  | mul => exact mul_ok hK h
  | fdiv => exact fdiv_ok h
  | mod => exact mod_ok h
  | pow => exact pow_ok h
end

section
variable {X : Cx} {w : Wd} {pv : V} {σa : En} {σ : L2.St} {H G : Hp} {F : Fp}
/-! ### comparisons -/
theorem shp_lay {d : D} (h : SeqAt.shaped d = true) : d.canLay0 = true := SeqAt.canLay_of_shaped h
theorem eqV_flat {v u : V} {x y : D} (rv : Rp w.K G v x) (ru : Rp w.K G u y) (fx : isFlat x = true) (fy : isFlat y = true) : eqV v u = PyData.eqv x y := by
  cases rv <;> first
    | exact absurd fx Bool.false_ne_true
    | (cases ru <;> first
        | exact absurd fy Bool.false_ne_true
        | rfl
        | simp [eqV, PyData.eqv])
theorem any_flat {u : V} {y : D} (ru : Rp w.K G u y) (fy : isFlat y = true) : ∀ {vs : List V} {ds : List D}, RpAll w.K G vs ds → ds.all isFlat = true → inV u vs = ds.any (fun z => PyData.eqv z y) ∧ vs.all flatV = true
  | _, _, .nil, _ => ⟨rfl, rfl⟩
  | _, _, .cons a b, h => by
    rw [List.all_cons, Bool.and_eq_true] at h
    obtain ⟨i1, i2⟩ := any_flat ru fy b h.2
    refine ⟨?_, by rw [List.all_cons, (a.flat h.1).1, i2]; rfl⟩
    unfold inV at i1 ⊢
    rw [List.any_cons, List.any_cons, eqV_flat a ru h.1 fy, i1]
def CmpOk (X : Cx) (w : Wd) (f : Value → Value → Sem Value) (x y : D) (z : Bool) : Prop := BinOk X w f x y (.bool z)
theorem eq_ok (hK : X.K = w.K) (hu : X.A.units + 64 < cLine) {x y : D} {z : Bool} (h : eqD x y = some z) : CmpOk X w (compareOp .Eq) x y z ∧ CmpOk X w (compareOp .NotEq) x y (!z) := by
  have deep : (if SeqAt.shaped x && SeqAt.shaped y then some (PyData.eqv x y) else none) = some z → CmpOk X w (compareOp .Eq) x y z ∧ CmpOk X w (compareOp .NotEq) x y (!z) := fun e => by
    split at e
    · rename_i c
      cases e
      rw [Bool.and_eq_true] at c
      constructor
      · refine ⟨_, op_eqD hu, fun st rv ru q => ⟨x, y, ?_, ?_, c.1, c.2, q.flat st (.bl _)⟩⟩
        · rw [hK]; exact (rv.mono st.sub).dp (shp_lay c.1)
        · rw [hK]; exact (ru.mono st.sub).dp (shp_lay c.2)
      · refine ⟨_, op_neD hu, fun st rv ru q => ⟨x, y, ?_, ?_, c.1, c.2, q.flat st (.bl _)⟩⟩
        · rw [hK]; exact (rv.mono st.sub).dp (shp_lay c.1)
        · rw [hK]; exact (ru.mono st.sub).dp (shp_lay c.2)
    · cases e
  have scal2 : ∀ {a b : V} {k : Bool}, (∀ G v, Rp w.K G v x → v = a) → (∀ G v, Rp w.K G v y → v = b) → scal a b = true → decide (a = b) = k → CmpOk X w (compareOp .Eq) x y k ∧ CmpOk X w (compareOp .NotEq) x y (!k) := fun {a b k} ia ib hs hk => by
    constructor
    · exact ⟨_, op_eq, fun st rv ru q => by rw [ia _ _ rv, ib _ _ ru]; exact ⟨hs, by rw [hk]; exact q.flat st (.bl _)⟩⟩
    · exact ⟨_, op_ne, fun st rv ru q => by rw [ia _ _ rv, ib _ _ ru]; exact ⟨hs, by rw [hk]; exact q.flat st (.bl _)⟩⟩
  cases x <;> cases y <;> simp only [eqD] at h <;> first
    | exact deep h
    | (cases h; exact scal2 (fun _ _ r => r.bl_inv) (fun _ _ r => r.bl_inv) rfl dec_bl)
    | (cases h; exact scal2 (fun _ _ r => r.int_inv) (fun _ _ r => r.int_inv) rfl dec_int)
    | (cases h; exact scal2 (fun _ _ r => r.str_inv) (fun _ _ r => r.str_inv) rfl (by rw [dec_str]; exact Bool.beq_eq_decide_eq _ _))
theorem in_ok (hK : X.K = w.K) (hu : X.A.units + 65 < cLine) {x y : D} {z : Bool} (h : inD x y = some z) : CmpOk X w (compareOp .In) x y z ∧ CmpOk X w (compareOp .NotIn) x y (!z) := by
  have flt : ∀ {ds : List D}, isFlat x = true → ds.all isFlat = true → (∀ {pv σa σ H G F u}, StOk w pv σa σ H G F → Rp w.K G u y → ∃ p vs, u = .ref p ∧ (SqL w.K H p vs ∨ SqT w.K H p vs) ∧ RpAll w.K G vs ds) →
      (ds.any fun z => PyData.eqv z x) = z → CmpOk X w (compareOp .In) x y z ∧ CmpOk X w (compareOp .NotIn) x y (!z) := fun {ds} f1 f2 hy hz => by
    constructor
    · refine ⟨_, op_in_seq, fun st rv ru q => ?_⟩
      obtain ⟨p, vs, rfl, s, r⟩ := hy st ru
      obtain ⟨i1, i2⟩ := any_flat rv f1 r f2
      exact ⟨p, vs, rfl, by rw [hK]; exact s, (rv.flat f1).1, i2, by simp only [Bool.false_eq_true, if_false]; rw [i1, hz]; exact q.flat st (.bl _)⟩
    · refine ⟨_, op_notIn_seq, fun st rv ru q => ?_⟩
      obtain ⟨p, vs, rfl, s, r⟩ := hy st ru
      obtain ⟨i1, i2⟩ := any_flat rv f1 r f2
      exact ⟨p, vs, rfl, by rw [hK]; exact s, (rv.flat f1).1, i2, by simp only [if_true]; rw [i1, hz]; exact q.flat st (.bl _)⟩
  cases y with
  | list ds =>
    simp only [inD] at h
    split at h
    · rename_i c
      rw [Bool.and_eq_true] at c
      exact flt c.1 c.2 (fun st ru => by obtain ⟨p, vs, rfl, s, r⟩ := ru.lst_inv; exact ⟨p, vs, rfl, .inl (st.sub.sqL s), r⟩) (Option.some.inj h)
    · split at h
      · rename_i c
        rw [Bool.and_eq_true] at c
        have hz := Option.some.inj h
        constructor
        · refine ⟨_, op_inD hu, fun st rv ru q => ⟨x, ds, ?_, ?_, c.1, c.2, by rw [hz]; exact q.flat st (.bl _)⟩⟩
          · rw [hK]; exact (rv.mono st.sub).dp (shp_lay c.1)
          · rw [hK]; exact (ru.mono st.sub).dp (shp_lay c.2)
        · refine ⟨_, op_notInD hu, fun st rv ru q => ⟨x, ds, ?_, ?_, c.1, c.2, by rw [hz]; exact q.flat st (.bl _)⟩⟩
          · rw [hK]; exact (rv.mono st.sub).dp (shp_lay c.1)
          · rw [hK]; exact (ru.mono st.sub).dp (shp_lay c.2)
      · cases h
  | tuple ds =>
    simp only [inD] at h
    split at h
    · rename_i c
      rw [Bool.and_eq_true] at c
      exact flt c.1 c.2 (fun st ru => by obtain ⟨p, vs, rfl, s, r⟩ := ru.tup_inv; exact ⟨p, vs, rfl, .inr (st.sub.sqT s), r⟩) (Option.some.inj h)
    · cases h
  | str t =>
    simp only [inD] at h
    cases x <;> try (cases h; done)
    have hz := Option.some.inj h
    subst hz
    constructor
    · exact ⟨_, op_in_str, fun st rv ru q => ⟨_, _, rv.str_inv, ru.str_inv, by have := q.flat st (.bl _); simpa using this⟩⟩
    · exact ⟨_, op_notin_str, fun st rv ru q => ⟨_, _, rv.str_inv, ru.str_inv, by have := q.flat st (.bl _); simpa using this⟩⟩
  | _ => simp [inD] at h
theorem is_ok {x y : D} {z : Bool} (h : isD x y = some z) : CmpOk X w (compareOp .Is) x y z ∧ CmpOk X w (compareOp .IsNot) x y (!z) := by
  have nn : ∀ {k : Bool}, y = .none → (∀ G v, Rp w.K G v x → decide (v = .non) = k) → CmpOk X w (compareOp .Is) x y k ∧ CmpOk X w (compareOp .IsNot) x y (!k) := fun {k} hy hx => by
    subst hy
    exact ⟨⟨_, op_isN, fun st rv ru q => ⟨ru.non_inv, by rw [hx _ _ rv]; exact q.flat st (.bl _)⟩⟩, ⟨_, op_notN, fun st rv ru q => ⟨ru.non_inv, by rw [hx _ _ rv]; exact q.flat st (.bl _)⟩⟩⟩
  have no : ∀ {k : Bool}, y = .none → (∀ G v, Rp w.K G v x → v ≠ .non) → some false = some k → CmpOk X w (compareOp .Is) x y k ∧ CmpOk X w (compareOp .IsNot) x y (!k) := fun {k} hy hx e => by
    cases e
    exact nn hy fun G v r => decide_eq_false (hx G v r)
  cases x <;> cases y <;> simp only [isD] at h <;> first
    | (cases h; done)
    | (cases h; exact nn rfl (fun G v r => by rw [r.non_inv]; rfl))
    | (refine no rfl (fun G v r e => ?_) h; subst e; cases r; done)
    | (cases h; exact ⟨⟨_, op_isBl, fun st rv ru q => ⟨_, _, rv.bl_inv, ru.bl_inv, q.flat st (.bl _)⟩⟩, ⟨_, op_notBl, fun st rv ru q => ⟨_, _, rv.bl_inv, ru.bl_inv, q.flat st (.bl _)⟩⟩⟩)
theorem cmp_ok (hK : X.K = w.K) (hu : X.A.units + 65 < cLine) {o : COp} {x y : D} {z : Bool} (h : cmpD o x y = some z) : CmpOk X w (compareOp (opC o)) x y z := by
  have hu' : X.A.units + 64 < cLine := by omega
  have neg : ∀ {a : Option Bool}, a.map (!·) = some z → a = some (!z) := fun {a} e => by
    cases a with
    | none => cases e
    | some k => simp at e; subst e; simp
  cases o with
  | eq => exact (eq_ok hK hu' h).1
  | ne => show CmpOk X w (compareOp .NotEq) x y z; have q := (eq_ok hK hu' (neg h)).2; simpa using q
  | isin => exact (in_ok hK hu h).1
  | notin => show CmpOk X w (compareOp .NotIn) x y z; have q := (in_ok hK hu (neg h)).2; simpa using q
  | is => exact (is_ok h).1
  | isnot => show CmpOk X w (compareOp .IsNot) x y z; have q := (is_ok (X := X) (w := w) (neg h)).2; simpa using q
  | lt =>
    simp only [cmpD] at h
    cases x <;> cases y <;> simp only [ltI] at h <;> first
      | (cases h; done)
      | (cases h; exact ⟨_, op_lt, fun st rv ru q => rule0 rv.int_inv ru.int_inv (q.flat st (.bl _))⟩)
      | (cases h; exact ⟨_, op_lt_str, fun st rv ru q => ⟨_, _, rv.str_inv, ru.str_inv, q.flat st (.bl _)⟩⟩)
  | le =>
    simp only [cmpD] at h
    cases x <;> cases y <;> simp only [ltI] at h <;> first
      | (cases h; done)
      | (cases h; exact ⟨_, op_le, fun st rv ru q => rule0 rv.int_inv ru.int_inv (q.flat st (.bl _))⟩)
  | gt =>
    simp only [cmpD] at h
    cases x <;> cases y <;> simp only [ltI] at h <;> first
      | (cases h; done)
      | (cases h; exact ⟨_, op_gt, fun st rv ru q => rule0 rv.int_inv ru.int_inv (q.flat st (.bl _))⟩)
  | ge =>
    simp only [cmpD] at h
    cases x <;> cases y <;> simp only [ltI] at h <;> first
      | (cases h; done)
      | (cases h; exact ⟨_, op_ge, fun st rv ru q => rule0 rv.int_inv ru.int_inv (q.flat st (.bl _))⟩)
/-! ### truth, subscripts, slices -/
theorem tru_of (hK : X.K = w.K) {x : D} {k : Bool} (h : trD x = some k) {H' : Hp} (st : StOk w pv σa σ H G F) {v : V} (r : Rp w.K G v x) (nd : ∀ kvs, x ≠ .dict kvs) : TruV X.K v H k := by
  have hs : sizeLine = 16777216 := sizeLine_eq
  have hL : LINE = 16777216 := rfl
  have em : ∀ {vs : List V} {ds : List D}, RpAll w.K G vs ds → vs.isEmpty = ds.isEmpty := fun q => by cases q <;> rfl
  rw [hK]
  cases r with
  | non => cases h; rfl
  | bl b => cases h; rfl
  | int i => cases h; rfl
  | str s =>
    simp only [trD] at h
    split at h
    · cases h; exact ⟨by omega, rfl⟩
    · cases h
  | lst s a => cases h; exact .inl ⟨_, st.sub.sqL s, by rw [em a]⟩
  | tup s a => cases h; exact .inr (.inl ⟨_, st.sub.sqT s, by rw [em a]⟩)
  | dic s a => exact absurd rfl (nd _)
theorem atI_rp {K : PySem.W.Frag} {vs : List V} {ds : List D} (r : RpAll K G vs ds) {i : Int} {d : D} (h : atI ds i = some d) : ∃ v, atI vs i = some v ∧ Rp K G v d := by
  unfold atI at h ⊢
  rw [r.length]
  cases e : ixN ds.length i with
  | none => rw [e] at h; cases h
  | some j =>
    rw [e] at h
    exact r.get' (show ds[j]? = some d from h)
theorem idx_ok (hK : X.K = w.K) {x y z : D} (h : idxD x y = some z) :
    ∃ r, IxR X r ∧ ∀ {pv σa σ H G F v u Q}, StOk w pv σa σ H G F → Rp w.K G v x → Rp w.K G u y → Fin1 w pv σa σ H G F z Q → r v u H Q := by
  have hs : sizeLine = 16777216 := sizeLine_eq
  have hL : LINE = 16777216 := rfl
  cases x <;> cases y <;> simp only [idxD] at h <;> try cases h
  · split at h
    · rename_i s i hl
      cases e : atI s.cps.toList i with
      | none => rw [e] at h; cases h
      | some c =>
        rw [e] at h
        cases h
        exact ⟨_, ix_str, fun st rv ru q => ⟨_, _, c, rv.str_inv, ru.int_inv, by omega, e, q.flat st (.str _)⟩⟩
    · cases h
  · refine ⟨_, ix_list, fun st rv ru q => ?_⟩
    obtain ⟨p, vs, rfl, s, r⟩ := rv.lst_inv
    obtain ⟨v, e, rv'⟩ := atI_rp r h
    exact ⟨p, vs, _, v, rfl, ru.int_inv, (by rw [hK]; exact st.sub.sqL s), e, q.flat st rv'⟩
  · refine ⟨_, ix_tup, fun st rv ru q => ?_⟩
    obtain ⟨p, vs, rfl, s, r⟩ := rv.tup_inv
    obtain ⟨v, e, rv'⟩ := atI_rp r h
    exact ⟨p, vs, _, v, rfl, ru.int_inv, by rw [hK]; exact st.sub.sqT s, e, q.flat st rv'⟩
theorem cut_whole {α : Type} {xs : List α} {lo hi : Option Int} (h : HT.sIx xs.length 0 lo = 0 ∧ HT.sIx xs.length xs.length hi = xs.length) : cutL xs lo hi = xs := by
  unfold cutL
  rw [h.1, h.2]
  simp
theorem slc_ok (hK : X.K = w.K) {x z : D} {lo hi : Option Int} (h : slcD x lo hi = some z) :
    ∃ r, SlR X r ∧ ∀ {pv σa σ H G F v Q}, StOk w pv σa σ H G F → Rp w.K G v x → Fin1 w pv σa σ H G F z Q → r v lo hi H Q := by
  have hs : sizeLine = 16777216 := sizeLine_eq
  have hL : LINE = 16777216 := rfl
  cases x <;> simp only [slcD] at h <;> try cases h
  · split at h
    · rename_i s hl
      cases h
      exact ⟨_, sl_str, fun st rv q => ⟨_, rv.str_inv, by omega, by have := q.flat st (.str _); simpa [cutS, cutL, Str.length] using this⟩⟩
    · cases h
  · refine ⟨_, sl_list, fun st rv q => ?_⟩
    obtain ⟨p, vs, rfl, s, r⟩ := rv.lst_inv
    exact ⟨p, vs, rfl, (by rw [hK]; exact st.sub.sqL s), q.new st fun p hp => rpLst (st.newNe hp).2.1 (r.cut lo hi)⟩
  · refine ⟨_, sl_tupA, fun st rv q => ?_⟩
    obtain ⟨p, vs, rfl, s, r⟩ := rv.tup_inv
    refine ⟨p, vs, rfl, by rw [hK]; exact st.sub.sqT s, fun e => ?_, fun _ => q.new st fun p hp => rpTup (st.newNe hp).2.1 (r.cut lo hi)⟩
    rw [r.length] at e
    rw [cut_whole e] at q
    exact q.flat st rv
end
end N
/-! N4: built-ins by name, methods, isinstance. -/
namespace N
open PySem PySem.Spec PyProof.Rows L2

theorem intsO_some : ∀ {xs : List D} {ns : List Int}, intsO xs = some ns → xs = ns.map .int
  | [], ns, h => by cases h; rfl
  | x :: xs, ns, h => by
    cases x <;> simp only [intsO] at h <;> try cases h
    cases e : intsO xs with
    | none => rw [e] at h; cases h
    | some ms => rw [e] at h; cases h; rw [intsO_some e]; rfl
theorem intsO_map (ns : List Int) : intsO (ns.map .int) = some ns := by
  induction ns with
  | nil => rfl
  | cons n ns ih => simp [intsO, ih]
theorem boolsO_some : ∀ {xs : List D} {ns : List Bool}, boolsO xs = some ns → xs = ns.map .bool
  | [], ns, h => by cases h; rfl
  | x :: xs, ns, h => by
    cases x <;> simp only [boolsO] at h <;> try cases h
    cases e : boolsO xs with
    | none => rw [e] at h; cases h
    | some ms => rw [e] at h; cases h; rw [boolsO_some e]; rfl
theorem boolsO_map (ns : List Bool) : boolsO (ns.map .bool) = some ns := by
  induction ns with
  | nil => rfl
  | cons n ns ih => simp [boolsO, ih]
theorem rpInts {K : PySem.W.Frag} {G : Hp} : ∀ {vs : List V} {ns : List Int}, RpAll K G vs (ns.map .int) → vs = ns.map V.int
  | _, [], .nil => rfl
  | _, n :: ns, .cons a b => by rw [a.int_inv, rpInts b]; rfl
theorem rpOfInts {K : PySem.W.Frag} {G : Hp} : ∀ {ns : List Int}, RpAll K G (ns.map V.int) (ns.map .int)
  | [] => .nil
  | n :: ns => .cons (.int n) rpOfInts
theorem rpBools {K : PySem.W.Frag} {G : Hp} : ∀ {vs : List V} {ns : List Bool}, RpAll K G vs (ns.map .bool) → vs = ns.map V.bl
  | _, [], .nil => rfl
  | _, n :: ns, .cons a b => by rw [a.bl_inv, rpBools b]; rfl
theorem maxI_fold : ∀ (ns : List Int) (x : Int), let m := ns.foldl (fun m y => if m < y then y else m) x; (m = x ∨ m ∈ ns) ∧ x ≤ m ∧ ∀ y ∈ ns, y ≤ m
  | [], x => ⟨.inl rfl, Int.le_refl _, fun _ h => nomatch h⟩
  | y :: ns, x => by
    simp only [List.foldl_cons]
    by_cases h : x < y
    · rw [if_pos h]
      obtain ⟨h1, h2, h3⟩ := maxI_fold ns y
      refine ⟨.inr ?_, by omega, fun z hz => ?_⟩
      · rcases h1 with e | e
        · rw [e]; exact List.mem_cons_self ..
        · exact List.mem_cons_of_mem _ e
      · rcases List.mem_cons.mp hz with rfl | hz
        · exact h2
        · exact h3 z hz
    · rw [if_neg h]
      obtain ⟨h1, h2, h3⟩ := maxI_fold ns x
      refine ⟨h1.imp id (List.mem_cons_of_mem _), h2, fun z hz => ?_⟩
      rcases List.mem_cons.mp hz with rfl | hz
      · omega
      · exact h3 z hz
theorem minI_fold : ∀ (ns : List Int) (x : Int), let m := ns.foldl (fun m y => if y < m then y else m) x; (m = x ∨ m ∈ ns) ∧ m ≤ x ∧ ∀ y ∈ ns, m ≤ y
  | [], x => ⟨.inl rfl, Int.le_refl _, fun _ h => nomatch h⟩
  | y :: ns, x => by
    simp only [List.foldl_cons]
    by_cases h : y < x
    · rw [if_pos h]
      obtain ⟨h1, h2, h3⟩ := minI_fold ns y
      refine ⟨.inr ?_, by omega, fun z hz => ?_⟩
      · rcases h1 with e | e
        · rw [e]; exact List.mem_cons_self ..
        · exact List.mem_cons_of_mem _ e
      · rcases List.mem_cons.mp hz with rfl | hz
        · exact h2
        · exact h3 z hz
    · rw [if_neg h]
      obtain ⟨h1, h2, h3⟩ := minI_fold ns x
      refine ⟨h1.imp id (List.mem_cons_of_mem _), h2, fun z hz => ?_⟩
      rcases List.mem_cons.mp hz with rfl | hz
      · omega
      · exact h3 z hz
theorem maxI_mem {n : Int} {ns : List Int} : maxI (n :: ns) ∈ n :: ns ∧ ∀ y ∈ n :: ns, y ≤ maxI (n :: ns) := by
  obtain ⟨h1, h2, h3⟩ := maxI_fold ns n
  refine ⟨?_, fun y hy => ?_⟩
  · rcases h1 with e | e
    · show List.foldl _ _ _ ∈ _; rw [e]; exact List.mem_cons_self ..
    · exact List.mem_cons_of_mem _ e
  · rcases List.mem_cons.mp hy with rfl | hy
    · exact h2
    · exact h3 y hy
theorem minI_mem {n : Int} {ns : List Int} : minI (n :: ns) ∈ n :: ns ∧ ∀ y ∈ n :: ns, minI (n :: ns) ≤ y := by
  obtain ⟨h1, h2, h3⟩ := minI_fold ns n
  refine ⟨?_, fun y hy => ?_⟩
  · rcases h1 with e | e
    · show List.foldl _ _ _ ∈ _; rw [e]; exact List.mem_cons_self ..
    · exact List.mem_cons_of_mem _ e
  · rcases List.mem_cons.mp hy with rfl | hy
    · exact h2
    · exact h3 y hy
theorem insI_perm (x : Int) : ∀ ns : List Int, (insI x ns).Perm (x :: ns)
  | [] => .refl _
  | y :: ys => by
    unfold insI
    split
    · exact .refl _
    · exact ((insI_perm x ys).cons y).trans (.swap ..)
theorem sortI_perm : ∀ ns : List Int, (sortI ns).Perm ns
  | [] => .refl _
  | x :: xs => (insI_perm x _).trans ((sortI_perm xs).cons x)
theorem insI_le {x : Int} : ∀ {ns : List Int}, ns.Pairwise (· ≤ ·) → (insI x ns).Pairwise (· ≤ ·)
  | [], _ => by simp [insI]
  | y :: ys, h => by
    unfold insI
    rw [List.pairwise_cons] at h
    split
    · rename_i c
      refine List.pairwise_cons.mpr ⟨fun z hz => ?_, List.pairwise_cons.mpr h⟩
      rcases List.mem_cons.mp hz with rfl | hz
      · omega
      · have := h.1 z hz; omega
    · rename_i c
      refine List.pairwise_cons.mpr ⟨fun z hz => ?_, insI_le h.2⟩
      rcases List.mem_cons.mp ((insI_perm x ys).mem_iff.mp hz) with rfl | hz
      · omega
      · exact h.1 z hz
theorem sortI_le : ∀ ns : List Int, (sortI ns).Pairwise (· ≤ ·)
  | [] => .nil
  | x :: xs => insI_le (sortI_le xs)
theorem sorted_uniq {a b : List Int} (p : a.Perm b) (ha : a.Pairwise (· ≤ ·)) (hb : b.Pairwise (· ≤ ·)) : a = b := p.eq_of_pairwise (fun x y _ _ h1 h2 => Int.le_antisymm h1 h2) ha hb

/-- the built-in's name and its value -/
def bltN : Blt → Str
  | .len => "len"
  | .int => "int"
  | .abs => "abs"
  | .min => "min"
  | .max => "max"
  | .sum => "sum"
  | .list => "list"
  | .tuple => "tuple"
  | .sorted => "sorted"
  | .any => "any"
  | .all => "all"
def bltV : Blt → Value
  | .len => .builtin "len"
  | .int => .type "int"
  | .abs => .builtin "abs"
  | .min => .builtin "min"
  | .max => .builtin "max"
  | .sum => .builtin "sum"
  | .list => .type "list"
  | .tuple => .type "tuple"
  | .sorted => .builtin "sorted"
  | .any => .builtin "any"
  | .all => .builtin "all"
section
variable {X : Cx} {w : Wd} {pv : V} {σa : En} {σ : L2.St} {H G : Hp} {F : Fp}
def BltOk (X : Cx) (w : Wd) (f : Value) (ds : List D) (z : D) : Prop :=
  ∃ r, CallR X f r ∧ ∀ {pv σa σ H G F vs Q}, StOk w pv σa σ H G F → RpAll w.K G vs ds → Fin1 w pv σa σ H G F z Q → r vs H Q
theorem rp1 {K : PySem.W.Frag} {vs : List V} {d : D} (h : RpAll K G vs [d]) : ∃ v, vs = [v] ∧ Rp K G v d := by
  cases h with
  | cons a b => cases b; exact ⟨_, rfl, a⟩
theorem rp2 {K : PySem.W.Frag} {vs : List V} {d e : D} (h : RpAll K G vs [d, e]) : ∃ v u, vs = [v, u] ∧ Rp K G v d ∧ Rp K G u e := by
  cases h with
  | cons a b =>
    obtain ⟨u, rfl, r⟩ := rp1 b
    exact ⟨_, u, rfl, a, r⟩
theorem len_ok (hK : X.K = w.K) {x : D} {n : Int} (h : lenD x = some n) (nd : ∀ kvs, x ≠ .dict kvs) : BltOk X w (.builtin "len") [x] (.int n) := by
  have hs : sizeLine = 16777216 := sizeLine_eq
  have hL : LINE = 16777216 := rfl
  refine ⟨_, call_len, fun st rv q => ?_⟩
  obtain ⟨v, rfl, r⟩ := rp1 rv
  rw [hK]
  cases x <;> simp only [lenD] at h <;> try (cases h; done)
  · split at h
    · cases h
      rw [r.str_inv]
      exact ⟨_, _, rfl, ⟨by omega, rfl⟩, q.flat st (.int _)⟩
    · cases h
  · cases h
    obtain ⟨p, us, rfl, s, ru⟩ := r.lst_inv
    exact ⟨_, _, rfl, .inl ⟨us, st.sub.sqL s, rfl⟩, by rw [ru.length]; exact q.flat st (.int _)⟩
  · cases h
    obtain ⟨p, us, rfl, s, ru⟩ := r.tup_inv
    exact ⟨_, _, rfl, .inr ⟨us, st.sub.sqT s, rfl⟩, by rw [ru.length]; exact q.flat st (.int _)⟩
theorem blt_ok (hK : X.K = w.K) (hc : X.calm = true) {f : Blt} {ds : List D} {z : D} (h : bltD f ds = some z) : BltOk X w (bltV f) ds z := by
  have lst1 : ∀ {pv σa σ H G F vs} {xs : List D}, StOk w pv σa σ H G F → RpAll w.K G vs [.list xs] → ∃ p us, vs = [.ref p] ∧ SqL X.K H p us ∧ RpAll w.K G us xs := fun st rv => by
    obtain ⟨v, rfl, r⟩ := rp1 rv
    obtain ⟨p, us, rfl, s, ru⟩ := r.lst_inv
    exact ⟨p, us, rfl, (by rw [hK]; exact st.sub.sqL s), ru⟩
  unfold bltD at h
  split at h
  · -- len
    cases e : lenD _ with
    | none => rw [e] at h; cases h
    | some n =>
      rw [e] at h
      cases h
      exact len_ok hK e fun kvs z => by subst z; simp [lenD] at e
  · cases h
    exact ⟨_, call_int1, fun st rv q => by obtain ⟨v, rfl, r⟩ := rp1 rv; exact .inl ⟨_, by rw [r.int_inv], q.flat st (.int _)⟩⟩
  · cases h
    exact ⟨_, call_int1, fun st rv q => by obtain ⟨v, rfl, r⟩ := rp1 rv; exact .inr ⟨_, by rw [r.bl_inv], q.flat st (.int _)⟩⟩
  · cases h
    exact ⟨_, call_abs, fun st rv q => by obtain ⟨v, rfl, r⟩ := rp1 rv; exact ⟨_, by rw [r.int_inv], q.flat st (.int _)⟩⟩
  · cases h
    exact ⟨_, call_min2 hc, fun st rv q => by obtain ⟨v, u, rfl, r, r2⟩ := rp2 rv; exact ⟨_, _, by rw [r.int_inv, r2.int_inv], q.flat st (.int _)⟩⟩
  · cases h
    exact ⟨_, call_max2 hc, fun st rv q => by obtain ⟨v, u, rfl, r, r2⟩ := rp2 rv; exact ⟨_, _, by rw [r.int_inv, r2.int_inv], q.flat st (.int _)⟩⟩
  · split at h
    · rename_i n ns e
      cases h
      refine ⟨_, cr_min hc, fun st rv q => ?_⟩
      obtain ⟨p, us, rfl, s, ru⟩ := lst1 st rv
      rw [intsO_some e] at ru
      rw [rpInts ru] at s
      refine ⟨p, n :: ns, rfl, s, by simp, fun m hm hle => ?_⟩
      have e2 : m = minI (n :: ns) := Int.le_antisymm (hle _ minI_mem.1) (minI_mem.2 m hm)
      rw [e2]
      exact q.flat st (.int _)
    · cases h
  · split at h
    · rename_i n ns e
      cases h
      refine ⟨_, cr_max hc, fun st rv q => ?_⟩
      obtain ⟨p, us, rfl, s, ru⟩ := lst1 st rv
      rw [intsO_some e] at ru
      rw [rpInts ru] at s
      refine ⟨p, n :: ns, rfl, s, by simp, fun m hm hle => ?_⟩
      have e2 : m = maxI (n :: ns) := Int.le_antisymm (maxI_mem.2 m hm) (hle _ maxI_mem.1)
      rw [e2]
      exact q.flat st (.int _)
    · cases h
  · -- sum
    cases e : intsO _ with
    | none => rw [e] at h; cases h
    | some ns =>
      rw [e] at h
      cases h
      refine ⟨_, cr_sum hc, fun st rv q => ?_⟩
      obtain ⟨p, us, rfl, s, ru⟩ := lst1 st rv
      rw [intsO_some e] at ru
      rw [rpInts ru] at s
      exact ⟨p, ns, rfl, s, q.flat st (.int _)⟩
  · -- any
    cases e : boolsO _ with
    | none => rw [e] at h; cases h
    | some ns =>
      rw [e] at h
      cases h
      refine ⟨_, cr_any hc, fun st rv q => ?_⟩
      obtain ⟨p, us, rfl, s, ru⟩ := lst1 st rv
      rw [boolsO_some e] at ru
      rw [rpBools ru] at s
      exact ⟨p, ns, rfl, s, q.flat st (.bl _)⟩
  · -- all
    cases e : boolsO _ with
    | none => rw [e] at h; cases h
    | some ns =>
      rw [e] at h
      cases h
      refine ⟨_, cr_all hc, fun st rv q => ?_⟩
      obtain ⟨p, us, rfl, s, ru⟩ := lst1 st rv
      rw [boolsO_some e] at ru
      rw [rpBools ru] at s
      exact ⟨p, ns, rfl, s, q.flat st (.bl _)⟩
  · cases h
    refine ⟨_, call_list_of, fun st rv q => ?_⟩
    obtain ⟨p, us, rfl, s, ru⟩ := lst1 st rv
    exact ⟨p, us, rfl, .inl s, q.new st fun p hp => rpLst (st.newNe hp).2.1 ru⟩
  · cases h
    refine ⟨_, call_list_of, fun st rv q => ?_⟩
    obtain ⟨v, rfl, r⟩ := rp1 rv
    obtain ⟨p, us, rfl, s, ru⟩ := r.tup_inv
    exact ⟨p, us, rfl, .inr (by rw [hK]; exact st.sub.sqT s), q.new st fun p hp => rpLst (st.newNe hp).2.1 ru⟩
  · cases h
    refine ⟨_, call_tuple_of, fun st rv q => ?_⟩
    obtain ⟨p, us, rfl, s, ru⟩ := lst1 st rv
    exact ⟨p, us, rfl, .inl ⟨s, q.new st fun p hp => rpTup (st.newNe hp).2.1 ru⟩⟩
  · cases h
    refine ⟨_, call_tuple_of, fun st rv q => ?_⟩
    obtain ⟨v, rfl, r⟩ := rp1 rv
    obtain ⟨p, us, rfl, s, ru⟩ := r.tup_inv
    exact ⟨p, us, rfl, .inr ⟨by rw [hK]; exact st.sub.sqT s, q.flat st r⟩⟩
  · -- sorted
    cases e : intsO _ with
    | none => rw [e] at h; cases h
    | some ns =>
      rw [e] at h
      cases h
      refine ⟨_, cr_sortedI, fun st rv q => ?_⟩
      obtain ⟨p, us, rfl, s, ru⟩ := lst1 st rv
      rw [intsO_some e] at ru
      rw [rpInts ru] at s
      refine ⟨p, ns, rfl, s, fun ms p' pm le hp => ?_⟩
      have e2 : ms = sortI ns := sorted_uniq (pm.trans (sortI_perm ns).symm) le (sortI_le ns)
      subst e2
      exact q.new st (fun p hp => rpLst (st.newNe hp).2.1 rpOfInts) p' hp
  · cases h

/-! ### isinstance -/
def tkN : Tk → String
  | .int => "int"
  | .bool => "bool"
  | .str => "str"
  | .list => "list"
  | .tuple => "tuple"
  | .dict => "dict"
def kindN : D → String
  | .none => "NoneType"
  | .bool _ => "bool"
  | .int _ => "int"
  | .str _ => "str"
  | .list _ => "list"
  | .tuple _ => "tuple"
  | .dict _ => "dict"
theorem ty_rp {K : PySem.W.Frag} (l : Le G H) {v : V} {x : D} (r : Rp K G v x) : TyX K H v (.type (kindN x)) := by
  cases r with
  | non => exact .base .non
  | bl b => exact .base (.bl b)
  | int i => exact .base (.int i)
  | str s => exact .base (.str s)
  | lst s _ =>
    rcases s with s | ⟨o, its, n, e, c, _⟩
    · rcases l.rd s with e | ⟨o, e⟩
      · exact .base (.lst e)
      · exact .base (.frz e)
    · exact .kList e c
  | tup s _ =>
    rcases s with s | ⟨o, its, n, e, c, _⟩
    · rcases l.rd s with e | ⟨o, e⟩
      · exact .base (.tup e)
      · exact .fTuple e
    · exact .kTuple e c
  | dic s _ =>
    rcases l.rd s with e | ⟨o, e⟩
    · exact .base (.dK e)
    · exact .fDict e
theorem kit_all (x : D) (t : Tk) : kitB (kindN x) (tkN t) = some (isiD x t) := by
  have h : ∀ n ∈ ["NoneType", "bool", "int", "str", "list", "tuple", "dict"], ∀ t ∈ [Tk.int, .bool, .str, .list, .tuple, .dict], kitB n (tkN t) = some ((n == tkN t) || (n == "bool" && tkN t == "int")) := by decide +kernel
  have e := h (kindN x) (by cases x <;> simp [kindN]) t (by cases t <;> simp)
  rw [e]
  cases x <;> cases t <;> rfl
theorem isi_ok (hK : X.K = w.K) (x : D) (t : Tk) :
    ∃ r, CallR X (.builtin "isinstance") r ∧ ∀ {pv σa σ H G F v Q}, StOk w pv σa σ H G F → Rp w.K G v x → Fin1 w pv σa σ H G F (.bool (isiD x t)) Q → r [v, .ty (tkN t)] H Q :=
  ⟨_, call_isi, fun st r q => ⟨_, _, _, _, _, rfl, .ty _, ty_rp st.sub (by rw [hK]; exact r), kit_ty (kit_all x t), q.flat st (.bl _)⟩⟩
end
end N
/-! N5: do own words spell the row's? -/
namespace N
open PySem PySem.Spec PyProof.Rows L2

structure Kc where
  N : List Str
  sc : Scope
  fb : Str → Bool
  P : Pg
  /-- how many frames of generator expressions may still be opened -/
  sl : Nat
  /-- the running code's table -/
  co : Option Nat
/-- expressions of a plain kind -/
def goodE : Expr → Bool
  | .Starred .. => false
  | .Set .. => false
  | .Slice .. => false
  | .SetComp .. => false
  | .DictComp .. => false
  | _ => true
def visB (sc : Scope) (x : Str) : Bool := match sc.names.lookup x with
  | some .local => true
  | some .cell => true
  | some .free => true
  | _ => false
def glB (sc : Scope) (x : Str) : Bool := match sc.names.lookup x with
  | some .globalImplicit => true
  | _ => false
def locB (sc : Scope) (x : Str) : Bool := match sc.names.lookup x with
  | some .local => true
  | _ => false
def celB (sc : Scope) (x : Str) : Bool := match sc.names.lookup x with
  | some .cell => true
  | _ => false
def okN (x : Str) : Bool := !(x == ("__debug__" : Str)) && (!(x == ("__classdict__" : Str)) && !(x == ("__name__" : Str)))
def Kc.var (kc : Kc) (i : Nat) (x : Str) : Bool := decide (kc.N[i]? = some x) && (visB kc.sc x && okN x)
def Kc.gl (kc : Kc) (x : Str) : Bool := glB kc.sc x && okN x
/-- a name that may be stored -/
def Kc.sto (kc : Kc) (i : Nat) (x : Str) : Bool := decide (kc.N[i]? = some x) && (locB kc.sc x || (celB kc.sc x && kc.fb x))
def Kc.fn (kc : Kc) (f : Nat) (x : Str) (n : Nat) (own : Bool) : Bool := match kc.P.fns[f]? with
  | some F => decide (F.name = x) && (decide (F.np = n) && (F.own == own))
  | none => false
def Kc.blk (kc : Kc) (scope : Scope) : Kc := ⟨kc.N, relS scope kc.sc, fun x => scope.names.lookup x == some .cell, kc.P, kc.sl, kc.co⟩
def Kc.gblk (kc : Kc) (scope : Scope) : Kc := ⟨kc.N, scope, fun _ => false, kc.P, kc.sl - 1, none⟩
def gscB (scope : Scope) : Bool := (scope.names.all fun y => match y.2 with
  | .cell => false
  | _ => true) && (!scope.isCoroutine && decide (scope.names.lookup (".0" : Str) = some NameKind.local))
def notList : Expr → Bool
  | .List .. => false
  | _ => true
def quaN (k : Bool) : Str := if k then "all" else "any"
def ownNames (N : List Str) (own : List Nat) : List (Str × Nat) := own.filterMap fun i => (N[i]?).map fun x => (x, i)
mutual
def ckT (kc : Kc) : Tg → Expr → Bool
  | .n i, E => match E with
    | .Name x _ => kc.sto i x
    | _ => false
  | .t ts, E => match E with
    | .Tuple Es _ _ => ckTs kc ts Es
    | _ => false
def ckTs (kc : Kc) : List Tg → List Expr → Bool
  | [], [] => true
  | t :: ts, E :: Es => goodE E && (ckT kc t E && ckTs kc ts Es)
  | _, _ => false
end
mutual
/-- a target's slots are among these -/
def inT (own : List Nat) : Tg → Bool
  | .n i => decide (i ∈ own)
  | .t ts => inTs own ts
def inTs (own : List Nat) : List Tg → Bool
  | [] => true
  | t :: ts => inT own t && inTs own ts
end
structure Ck where
  e : Kc → Expr → Bool
  b : Kc → Bool → List Expr → Bool
def Ck.of (f : Kc → Expr → Bool) : Ck := ⟨fun kc E => goodE E && f kc E, fun kc _ Es => match Es with
  | [E] => goodE E && f kc E
  | _ => false⟩
def bopB (k : Bool) (o : BoolOp) : Bool := match k, o with
  | true, .And => true
  | false, .Or => true
  | _, _ => false
def isTup : Expr → Bool
  | .Tuple .. => true
  | _ => false
def mthN : Mth → Str
  | .join => "join"
  | .count => "count"
def noSuper : Expr → Bool
  | .Call (.Name id _) [] [] _ => !(id == ("super" : Str))
  | _ => true
def opBB (o : BOp) (p : Operator) : Bool := match o, p with
  | .add, .Add => true
  | .sub, .Sub => true
  | .mul, .Mult => true
  | .fdiv, .FloorDiv => true
  | .mod, .Mod => true
  | .pow, .Pow => true
  | _, _ => false
def opCB (o : COp) (p : CmpOp) : Bool := match o, p with
  | .eq, .Eq => true
  | .ne, .NotEq => true
  | .lt, .Lt => true
  | .le, .LtE => true
  | .gt, .Gt => true
  | .ge, .GtE => true
  | .isin, .In => true
  | .notin, .NotIn => true
  | .is, .Is => true
  | .isnot, .IsNot => true
  | _, _ => false
theorem opBB_eq {o : BOp} {p : Operator} (h : opBB o p = true) : p = opB o := by
  cases o <;> cases p <;> first | rfl | cases h
theorem opCB_eq {o : COp} {p : CmpOp} (h : opCB o p = true) : p = opC o := by
  cases o <;> cases p <;> first | rfl | cases h
mutual
def ck : Ex → Ck
  | .v i => .of fun kc E => match E with
    | .Name x _ => kc.var i x
    | _ => false
  | .fz i => .of fun kc E => match E with
    | .Name x _ => kc.var i x
    | _ => false
  | .int i => .of fun _ E => match E with
    | .Constant (.int j) _ _ => decide (i = j)
    | _ => false
  | .str x => .of fun _ E => match E with
    | .Constant (.str y) _ _ => decide (x = y)
    | _ => false
  | .bl b => .of fun _ E => match E with
    | .Constant (.bool c) _ _ => b == c
    | _ => false
  | .non => .of fun _ E => match E with
    | .Constant .none _ _ => true
    | _ => false
  | .con x => .of fun kc E => match E with
    | .Name y _ => decide (x = y) && kc.gl x
    | _ => false
  | .neg a => .of fun kc E => match E with
    | .UnaryOp .USub A _ => (ck a).e kc A
    | _ => false
  | .bin o a b => .of fun kc E => match E with
    | .BinOp A p B _ => opBB o p && ((ck a).e kc A && (ck b).e kc B)
    | _ => false
  | .cmp o a b => .of fun kc E => match E with
    | .Compare A [p] [B] _ => opCB o p && ((ck a).e kc A && (ck b).e kc B)
    | _ => false
  | .chain o1 o2 a b c => .of fun kc E => match E with
    | .Compare A [p, q] [B, C] _ => (opCB o1 p && opCB o2 q) && ((ck a).e kc A && ((ck b).e kc B && (ck c).e kc C))
    | _ => false
  | .bop k a b => ⟨fun kc E => match E with
      | .BoolOp o (A :: B :: r) _ => bopB k o && ((ck a).e kc A && (ck b).b kc k (B :: r))
      | _ => false,
    fun kc k' Es => match Es with
      | [E] => match E with
        | .BoolOp o (A :: B :: r) _ => bopB k o && ((ck a).e kc A && (ck b).b kc k (B :: r))
        | _ => false
      | A :: B :: r => (k' == k) && ((ck a).e kc A && (ck b).b kc k (B :: r))
      | [] => false⟩
  | .not a => .of fun kc E => match E with
    | .UnaryOp .Not A _ => (ck a).e kc A
    | _ => false
  | .ite c a b => .of fun kc E => match E with
    | .IfExp T A B _ => (ck c).e kc T && ((ck a).e kc A && (ck b).e kc B)
    | _ => false
  | .ix a i => .of fun kc E => match E with
    | .Subscript A I _ => (ck a).e kc A && (ck i).e kc I
    | _ => false
  | .sl a lo hi => .of fun kc E => match E with
    | .Subscript A (.Slice lo' hi' none _) _ => (ck a).e kc A && (ckO lo kc lo' && ckO hi kc hi')
    | _ => false
  | .tup es => .of fun kc E => match E with
    | .Tuple Es _ _ => cks es kc Es
    | _ => false
  | .lst es => .of fun kc E => match E with
    | .List Es _ => cks es kc Es
    | _ => false
  | .call f es => .of fun kc E => match E with
    | .Call (.Name x _) Es [] _ => (kc.gl x && kc.fn f x es.length false) && cks es kc Es
    | _ => false
  | .callO f j es => .of fun kc E => match E with
    | .Call (.Name x _) (.Name y _ :: Es) [] _ => (kc.gl x && (kc.fn f x (es.length + 1) true && kc.var j y)) && cks es kc Es
    | _ => false
  | .blt f es => .of fun kc E => match E with
    | .Call (.Name x _) Es [] _ => (decide (x = bltN f) && (kc.gl x && decide (0 < es.length))) && cks es kc Es
    | _ => false
  | .isi a t => .of fun kc E => match E with
    | .Call (.Name x _) [A, .Name y _] [] _ => (decide (x = "isinstance") && (kc.gl x && (decide (y = Str.ofString (tkN t)) && kc.gl y))) && (ck a).e kc A
    | _ => false
  | .mth m a es => .of fun kc E => match E with
    | .Call (.Attribute A x apos) Es [] pos => (decide (x = mthN m) && (noSuper A && ((apos.endLine == pos.line) && decide (es.length = 1)))) && ((ck a).e kc A && cks es kc Es)
    | _ => false
  | .ixP j i => .of fun kc E => match E with
    | .Subscript (.Name x _) I _ => kc.var j x && (ck i).e kc I
    | _ => false
  | .lenP j => .of fun kc E => match E with
    | .Call (.Name x _) [.Name y _] [] _ => decide (x = "len") && (kc.gl x && kc.var j y)
    | _ => false
  | .spc s a => .of fun kc E => match s, E with
    | .srev, .Call (.Name x _) [A] [⟨some y, .Constant (.bool true) _ _, _⟩] _ => (decide (x = "sorted") && (kc.gl x && decide (y = "reverse"))) && (ck a).e kc A
    | .lset, .Call (.Name x _) [.Call (.Name y _) [A] [] _] [] _ => (decide (x = "len") && (kc.gl x && (decide (y = "set") && kc.gl y))) && (ck a).e kc A
    | .sset, .Call (.Name x _) [.Call (.Name y _) [A] [] _] [] _ => (decide (x = "sorted") && (kc.gl x && (decide (y = "set") && kc.gl y))) && (ck a).e kc A
    | _, _ => false
  | .inP j a => .of fun kc E => match E with
    | .Compare A [.In] [.Name y _] _ => kc.var j y && (ck a).e kc A
    | _ => false
  | .srtK j => .of fun kc E => match E with
    | .Call (.Name x _) [.Name y _] [] _ => decide (x = "sorted") && (kc.gl x && kc.var j y)
    | _ => false
  | .lc elt tg it cs own => .of fun kc E => match E with
    | .ListComp B [⟨T, I, Cs, 0⟩] scope _ => ((blkC kc.N kc.sc scope (ownNames kc.N own) && (own.all fun i => decide (i < kc.N.length))) && (inT own tg && ckT (kc.blk scope) tg T)) && (ckI it kc T I && (ckC cs (kc.blk scope) Cs && (ck elt).e (kc.blk scope) B))
    | _ => false
  | .lc2 elt tg it tg1 it1 cs own own1 => .of fun kc E => match E with
    | .ListComp B [⟨T, I, [], 0⟩, ⟨T1, I1, Cs, 0⟩] scope _ => ((blkC kc.N kc.sc scope (ownNames kc.N own) && (own.all fun i => decide (i < kc.N.length))) && ((inT own tg && ckT (kc.blk scope) tg T) && (inT own1 tg1 && ckT (kc.blk scope) tg1 T1))) &&
        ((ckI it kc T I && (own1.all fun i => decide (i ∈ own))) && (ckI it1 (kc.blk scope) T1 I1 && (ckC cs (kc.blk scope) Cs && (ck elt).e (kc.blk scope) B)))
    | _ => false
  | .gq q elt tg it cs own => .of fun kc E => match E with
    | .Call (.Name x _) [.GeneratorExp B [⟨T, I, Cs, 0⟩] scope _] [] _ => ((decide (x = quaN q) && kc.gl x) && (decide (0 < kc.sl) && kc.co.isSome)) &&
        (((blkC kc.N kc.sc scope (ownNames kc.N own) && (own.all fun i => decide (i < kc.N.length))) && (gscB scope && notList I)) && ((inT own tg && ckT (kc.gblk scope) tg T) && (ckI it kc T I && (ckC cs (kc.gblk scope) Cs && (ck elt).e (kc.gblk scope) B))))
    | _ => false
termination_by structural e => e
def cks : List Ex → Kc → List Expr → Bool
  | [] => fun _ Es => match Es with
    | [] => true
    | _ => false
  | e :: es => fun kc Es => match Es with
    | E :: Es => (ck e).e kc E && cks es kc Es
    | [] => false
termination_by structural e => e
def ckO : OEx → Kc → Option Expr → Bool
  | .no => fun _ E => match E with
    | none => true
    | _ => false
  | .so e => fun kc E => match E with
    | some E => (ck e).e kc E
    | none => false
termination_by structural e => e
def ckC : OEx → Kc → List Expr → Bool
  | .no => fun _ Es => match Es with
    | [] => true
    | _ => false
  | .so e => fun kc Es => match Es with
    | [E] => (ck e).e kc E
    | _ => false
termination_by structural e => e
def ckI : Ir → Kc → Expr → Expr → Bool
  | .of e => fun kc _ E => (ck e).e kc E
  | .range1 a => fun kc _ E => match E with
    | .Call (.Name x _) [A] [] _ => (decide (x = "range") && kc.gl x) && (ck a).e kc A
    | _ => false
  | .range2 a b => fun kc _ E => match E with
    | .Call (.Name x _) [A, B] [] _ => (decide (x = "range") && kc.gl x) && ((ck a).e kc A && (ck b).e kc B)
    | _ => false
  | .zip a b => fun kc T E => match E with
    | .Call (.Name x _) [A, B] [] _ => (isTup T && (decide (x = "zip") && kc.gl x)) && ((ck a).e kc A && (ck b).e kc B)
    | _ => false
  | .enum a => fun kc T E => match E with
    | .Call (.Name x _) [A] [] _ => (isTup T && (decide (x = "enumerate") && kc.gl x)) && (ck a).e kc A
    | _ => false
  | .enumz a b => fun kc T E => match E with
    | .Call (.Name x _) [.Call (.Name y _) [A, B] [] _] [] _ => (isTup T && ((decide (x = "enumerate") && kc.gl x) && (decide (y = "zip") && kc.gl y))) && ((ck a).e kc A && (ck b).e kc B)
    | _ => false
termination_by structural e => e
end
end N
/-! NG1: the frame of a generator expression; its loop. -/
namespace N
open PySem PySem.Spec PyProof.Rows L2 GenW
/-- the context of a generator expression's body: made in s over H, its frame cenv, its source's objects fp, its own object pinned -/
abbrev gX (X : Cx) (s : Shared) (H : Hp) (A : Around) (cenv : PySem.Env) (fp : List Addr) (pn : List (Addr × Obj)) : Cx :=
  { X with A := A.deeper cenv, s_0 := s, H_0 := H, env := cenv, outer := X.stack, stack := cenv :: X.stack, ex := fp, fn := fun _ => false, pn := pn, xe := fun _ _ => False }
section
variable {X : Cx} {pins : List (Addr × Obj)} {σ : L2.St} {H : Hp} {s : Shared}
theorem gen_start {scope : Scope} {own : List (Str × Nat)} {fp : List Addr} {A : Around} {code : Value} {h5 : Heap} {g5 : Array GenState} {t5 : Nat} {a : Addr} {go : Obj} {mm : Str → Option Value}
    (I : Inv X pins σ H s) (ok : BlkOk X.N X.env.scope scope own) (hN : X.N.Nodup) (nc : ∀ y ∈ scope.names, y.2 ≠ .cell) (hfp : ∀ b ∈ fp, FpOk X pins H b ∧ b < s.heap.objs.size) (hA : A.frames = some X.stack) (hh : A.handled = none)
    (kp : ∀ b o, s.heap.get? b = some o → h5.get? b = some o) (hns : h5.Ns s.heap.objs.size mm) (ag : AllBare g5) (ha : h5.get? a = some go) (hlt : s.heap.objs.size < a) (hgo : ∀ v, go.data ≠ .cell v) :
    Inv (gX X s H A (genEnv scope (cloFrom X.env.cells scope.names []) s.heap.objs.size code builtinsNs X.env) fp [(a, go)]) [] (wipe σ (own.map (·.2))) H { s with heap := h5, gens := g5, toks := t5 } := by
  have hfree : ∀ y ∈ scope.names, y.2 = .free → ∃ c, X.env.cells.lookup y.1 = some c := fun y hy e => by
    rcases ok.free y hy e with q | q
    · exact I.ok.has _ (.inl q)
    · exact I.ok.has _ (.inr q)
  have cm : ∀ {y c}, (cloFrom X.env.cells scope.names []).lookup y = some c → X.env.cells.lookup y = some c ∧ c < s.heap.objs.size := fun {y c} e => by
    rcases cloFrom_mem (PySem.mem_of_lookup e) with hm | ⟨h1, rfl⟩
    · cases hm
    · obtain ⟨c, hc⟩ := hfree _ h1 rfl
      rw [hc]
      obtain ⟨u, z⟩ := I.cell _ _ hc
      exact ⟨rfl, z.lt⟩
  have look : ∀ {y}, scope.names.lookup y = some .free → ∃ c, (cloFrom X.env.cells scope.names []).lookup y = some c := fun {y} hl =>
    mem_lookup (cloFrom_has (cells := X.env.cells) (acc := []) (PySem.mem_of_lookup hl))
  have vis : ∀ {y}, scope.names.lookup y ≠ some .cell := fun {y} e => nc _ (PySem.mem_of_lookup e) rfl
  have e0 := I.env0
  have okG : (gX X s H A (genEnv scope (cloFrom X.env.cells scope.names []) s.heap.objs.size code builtinsNs X.env) fp [(a, go)]).Ok := by
    refine ⟨I.ok.mod, ok.kind, I.ok.glob, rfl, Nat.le_refl _, fun y z c e1 e2 => I.ok.inj y z c (cm e1).1 (cm e2).1, fun y hy => ?_, (fun y c z _ => by cases z), fun _ => hh, Around.frames_deeper hA, .inr ⟨rfl, rfl⟩, fun b hb => ⟨Nat.ne_of_lt (hfp b hb).2, fun y c e z => ?_⟩,
      I.bs, Nat.le_trans I.ok.bsz I.sz, fun b o e hb => ?_, fun b hb z => ?_, e0.funs, e0.frf⟩
    · rcases hy with q | q
      · exact absurd q vis
      · exact look q
    · exact (hfp b hb).1.2.2.2.2.1 y c (cm e).1 z
    · rcases (hfp b hb).1.2.2.2.1 with z | z
      · exact I.ok.noex b o e z
      · exact absurd (Nat.lt_of_lt_of_le (Heap.lt_size e) (Nat.le_trans I.ok.bsz z)) (Nat.lt_irrefl _)
    · rcases List.mem_cons.mp (I.stkSub b z) with q | q
      · exact (hfp b hb).1.2.1 q
      · exact (hfp b hb).1.2.2.1 q
  refine ⟨okG, rfl, ag, Un.kept kp, ⟨mm, hns, fun i y av e1 e2 e3 => ?_⟩, fun y c e => ?_, I.hok.fresh (Nat.le_refl _), fun y c e => I.freeC y c (cm e).1, fun p hp => ?_, I.hok.kept kp, by rw [wipe_length]; exact I.len⟩
  · obtain ⟨e2, hne⟩ := wipe_some e2
    have hl : scope.names.lookup y = some .free := by
      rcases (show Vis scope y from e3) with q | q | q
      · exfalso
        rcases ok.own _ (PySem.mem_of_lookup q) (.inl rfl) with z | z
        · obtain ⟨p, hp, hpy⟩ := List.mem_map.mp z
          have e4 := ok.ix p hp
          have e5 : p.1 = y := hpy
          rw [e5] at e4
          exact hne (List.mem_map.mpr ⟨p, hp, nodup_ix hN e4 e1⟩)
        · exact z (List.mem_of_getElem? e1)
      · exact absurd q vis
      · exact q
    obtain ⟨m, hn, hk⟩ := I.loc
    have fr := ok.free _ (PySem.mem_of_lookup hl) rfl
    have hvis : Vis X.env.scope y := fr.elim (fun q => .inr (.inl q)) fun q => .inr (.inr q)
    obtain ⟨u, r, q⟩ := hk i y av e1 e2 hvis
    obtain ⟨c, hc⟩ := look hl
    refine ⟨u, r, .inr ⟨.inr hl, c, hc, ?_⟩⟩
    rcases q with ⟨q, _⟩ | ⟨_, c', e', z⟩
    · have q : X.env.scope.names.lookup y = some .local := q
      rcases fr with z | z <;> rw [show X.env.scope.names.lookup y = _ from z] at q <;> cases q
    · rw [(cm hc).1] at e'; cases e'
      exact z.keeps kp
  · obtain ⟨u, z⟩ := I.cell y c (cm e).1
    exact ⟨u, z.keeps kp⟩
  · have e : p = (a, go) := by simpa using hp
    subst e
    refine ⟨ha, I.hok.fresh (Nat.le_of_lt hlt), Nat.ne_of_gt hlt, fun hm => ?_, hgo⟩
    obtain ⟨_, o, ho, _⟩ := e0.funs.mem hm
    exact absurd (Nat.lt_trans (Heap.lt_size ho) hlt) (Nat.lt_irrefl _)
/-- back in the def's context -/
theorem gen_back {fp : List Addr} {A : Around} {cenv : PySem.Env} {pn pins' : List (Addr × Obj)} {σ' : L2.St} {H' : Hp} {s' : Shared} (I : Inv X pins σ H s) (hfp : ∀ b ∈ fp, FpOk X pins H b) (J : Inv (gX X s H A cenv fp pn) pins' σ' H' s') : Inv X pins σ H' s' :=
  I.call' (ch := fp) J.os J.base J.hok J.bare fun b hb => ⟨(hfp b hb).2.2.2.1, (hfp b hb).2.1, (hfp b hb).2.2.2.2.1, (hfp b hb).2.2.2.2.2⟩
theorem room_gen {k : Nat} {A : Around} (r : Room (k + 1) A) (env : PySem.Env) : Room k ((A.in1.in1).deeper env) :=
  ⟨r.hd, by have := r.dp; show A.depth + 1 + 3 * k + 5 < _; omega, by have := r.un; show A.units + 1 + 1 + 3 + 16 * k + 200 < _; omega⟩
theorem over_gen {A : Around} {elt : Expr} {gs : List Comprehension} {scope : Scope} {pos : Pos} {it acc : Value} {env : PySem.Env} : A.over (.compLoop (.GeneratorExp elt gs scope pos) 0 it acc env) [] = A.deeper env := by
  first
    | rfl
    | (obtain ⟨hd, d, fr, gs, u⟩ := A; simp [Around.over, Around.deeper, marksOver, frameCount, unitsOf, envsOf, guardsOf, pushEnvs, pushGuards, Code.envs, Code.env?, Code.isFrame, Code.guards, Code.isGuard, Code.weight, Code.frames, Code.isCreation, Code.isCaller, Code.cUnits])
theorem over_gen0 {A : Around} {elt : Expr} {gs : List Comprehension} {scope : Scope} {pos : Pos} {it acc : Value} {env : PySem.Env} : A.over (.compStart (.GeneratorExp elt gs scope pos) 0 it acc env) [] = A.deeper env := by
  first
    | rfl
    | (obtain ⟨hd, d, fr, gs, u⟩ := A; simp [Around.over, Around.deeper, marksOver, frameCount, unitsOf, envsOf, guardsOf, pushEnvs, pushGuards, Code.envs, Code.env?, Code.isFrame, Code.guards, Code.isGuard, Code.weight, Code.frames, Code.isCreation, Code.isCaller, Code.cUnits])
end
/-- the truth of a value, nothing but tokens turning -/
def TrS (X : Cx) (y : V) (H : Hp) (t : Bool) : Prop := ∀ (pins : List (Addr × Obj)) (σ : L2.St) (s : Shared) (u : Value) (A : Around) (Q : Bool → Shared → Prop) (E : Value → Shared → Prop), Inv X pins σ H s → RelV y u → A.handled = none → (∀ tk, Q t { s with toks := tk }) → wpAny (model X.prog X.w) A (truthy u) Q E s
/-- the truth of a value in every context of the program -/
def TrA (P : Program) (w : World) (K : PySem.W.Frag) (y : V) (H : Hp) (t : Bool) : Prop := ∀ X : Cx, X.prog = P → X.w = w → X.K = K → TrS X y H t
theorem wipe_at {σ : L2.St} {i : Nat} {x : Option V} : ∀ {is : List Nat}, i ∈ is → wipe (σ.set i x) is = wipe σ is
  | j :: is, h => by
    unfold wipe
    by_cases e : i = j
    · subst e
      by_cases m : i ∈ is
      · rw [wipe_at m]
      · have q : ∀ {ks : List Nat}, i ∉ ks → wipe (σ.set i x) ks = (wipe σ ks).set i x := by
          intro ks
          induction ks with
          | nil => intro _; rfl
          | cons a ks ih =>
            intro n
            unfold wipe
            rw [ih fun z => n (List.mem_cons_of_mem _ z), List.set_comm _ _ (fun z => n (by simp [z]))]
        rw [q m, List.set_set]
    · rcases List.mem_cons.mp h with z | z
      · exact absurd z e
      · rw [wipe_at z]
theorem wipe_idem {σ : L2.St} {own : List Nat} : wipe (wipe σ own) own = wipe σ own := by
  have q : ∀ {is : List Nat}, (∀ i ∈ is, i ∈ own) → wipe (wipe σ is) own = wipe σ own := by
    intro is
    induction is with
    | nil => intro _; rfl
    | cons i is ih =>
      intro h
      rw [wipe.eq_def σ (i :: is)]
      show wipe ((wipe σ is).set i none) own = _
      rw [wipe_at (h i (List.mem_cons_self ..))]
      exact ih fun j m => h j (List.mem_cons_of_mem _ m)
  exact q fun _ m => m
/-- the same objects; the table of generators turned -/
structure Like (s s' : Shared) : Prop where
  os : s'.os = s.os
  heap : s'.heap = s.heap
  bare : AllBare s'.gens
theorem Like.inv {X : Cx} {pins : List (Addr × Obj)} {σ : L2.St} {H : Hp} {s s' : Shared} (l : Like s s') (I : Inv X pins σ H s) : Inv X pins σ H s' := by
  obtain ⟨h, g, d, t, o⟩ := s'
  obtain ⟨l1, l2, l3⟩ := l
  dsimp only at l1 l2 l3
  subst l1 l2
  exact I.call' (ch := []) rfl Un.refl I.hok l3 fun b m => nomatch m
section
variable {X : Cx}
/-- it is at an end -/
def gEnd (X : Cx) (k : Bool) (Qd : Bool → Hp → Prop) : GenEnd := fun _ _ r s => r = .ok .next ∧ ∃ σ H, Inv X [] σ H s ∧ Qd k H
/-- a value is handed out -/
def gOut (X : Cx) (k : Bool) (Qd : Bool → Hp → Prop) : Protocol := fun n _ v s kap => ∃ (y : V) (H : Hp) (σ : L2.St) (t : Bool), RelV y v ∧ Inv X [] σ H s ∧ TrS X y H t ∧ (t ≠ k → Qd t H) ∧ (t = k → 0 < n ∧ ∀ s', Like s s' → kap (.send .none) s')
/-- one turn's reading -/
def tTurn (X : Cx) (k : Bool) (Qd : Bool → Hp → Prop) (J : It) (g : TG) (tt : TT) (te : TE) (σ0 : L2.St) (vs : List Nat) (W : Nat → Nat → Hp → Prop) : Prop := ∀ i m H, W i m H → (J.stop i H ∧ Qd k H) ∨ (J.go i H ∧ ∃ Nx : Hp → Prop, (∀ H', Nx H' → ∃ m', m' < m ∧ W (i + 1) m' H') ∧
  ∀ x H', J.yld i H x H' → g x σ0 H' fun σ2 H2 => wipe σ2 vs = σ0 ∧ tt σ2 H2 fun b H3 => if b = true then te σ2 H3 fun y H4 => ∃ t, TrA X.prog X.w X.K y H4 t ∧ (t = k → Nx H4) ∧ (t ≠ k → Qd t H4) else Nx H3)
theorem seg_gq {A : Around} {tg elt iter : Expr} {ifs : List Expr} {scope : Scope} {pos : Pos} {it : Addr} {fp : List Addr} {tn : Nat → Heap → Prop} {J : It} {k : Bool} {Qd : Bool → Hp → Prop} {g : TG} {tt : TT} {te : TE} {σ0 : L2.St} {vs : List Nat} {W : Nat → Nat → Hp → Prop}
    (hov : X.A = A.deeper X.env) (hxe : X.xe = fun _ _ => False) (hco : X.env.scope.isCoroutine = false) (hc : X.calm = true) (T : Turn X.prog X.w X.K tg J fp it tn) (hg : PG X tg g) (ht : PTs X ifs tt) (he : PE X elt te) (hw : wipe σ0 vs = σ0) (turn : tTurn X k Qd J g tt te σ0 vs W)
    (stat : ∀ {σ' : L2.St} {H' : Hp} {s' : Shared}, Inv X [] σ' H' s' → (∀ b ∈ fp, H' b = none) → ∀ b ∈ fp, FpOk X [] H' b) :
    ∀ (m n i : Nat) (s0 s : Shared) (H : Hp), m < n → Inv X [] σ0 H s → tn i s.heap → (∀ b ∈ fp, H b = none) → W i m H →
      Seg (model X.prog X.w) A (gEnd X k Qd) (gOut X k Qd) n s0 (.compLoop (.GeneratorExp elt [⟨tg, iter, ifs, 0⟩] scope pos) 0 (.ref it) .none X.env) ((model X.prog X.w).den (.compLoop (.GeneratorExp elt [⟨tg, iter, ifs, 0⟩] scope pos) 0 (.ref it) .none X.env)) [] s := by
  have ov : A.over (.compLoop (.GeneratorExp elt [⟨tg, iter, ifs, 0⟩] scope pos) 0 (.ref it) .none X.env) [] = X.A := by rw [hov]; exact over_gen
  intro m
  induction m using Nat.strongRecOn with
  | ind m ih =>
    intro n i s0 s H hmn I st fr w0
    show Seg _ A _ _ _ s0 _ ((compTurn (.GeneratorExp elt [⟨tg, iter, ifs, 0⟩] scope pos) 0 (.ref it) .none X.env).onRaise (leaving X.env)) [] s
    rw [compTurn_gen, Sem.onRaise_eq_wrap]
    refine seg_bind_wrap (wpAny_standAt ?_)
    have none_xe : ∀ {α : Type} {t : Sem α} {Q Q' : α → Shared → Prop} {E : Value → Shared → Prop} {s : Shared}, wpAny (model X.prog X.w) X.A t Q X.xe s → (∀ a s, Q a s → Q' a s) → wpAny (model X.prog X.w) X.A t Q' E s := fun {α t Q Q' E s} h q => by
      rw [hxe] at h
      exact thnF h q
    rcases turn i m H w0 with ⟨stop, qd⟩ | ⟨go, Nx, hNx, step⟩
    · refine seg_bind_wrap ?_
      rw [ov]
      refine thnF (T.done X rfl rfl rfl hc i [] s σ0 H (fun _ _ => False) I (stat I fr) st stop) fun r s1 ⟨hr, I1⟩ => ?_
      subst hr
      exact seg_end (.ok .next) ⟨rfl, σ0, H, I1, qd⟩
    · refine seg_bind_wrap ?_
      rw [ov]
      refine thnF (T.item X rfl rfl rfl hc i [] s σ0 H (fun _ _ => False) I (stat I fr) st go) fun r s1 ⟨u, hr, h1⟩ => ?_
      subst hr
      refine seg_bind_wrap ?_
      rw [ov]
      refine thnF h1 fun _ s2 ⟨x, H2, I2, r2, y2, st2, fr2⟩ => ?_
      have I2' := I2.pinned (stat I2 fr2) (T.obj _ _ st2)
      refine seg_bind_wrap ?_
      rw [ov]
      refine none_xe (hg.run _ s2 σ0 H2 x u _ I2' r2 (step x H2 y2)) fun _ s3 ⟨σ3, H3, I3, w3, q3⟩ => ?_
      refine seg_bind_wrap ?_
      rw [ov]
      refine none_xe (ht.run _ s3 σ3 H3 _ I3 q3) fun b s4 ⟨H4, I4, q4⟩ => ?_
      -- the turn's end
      have again : ∀ {s' : Shared} {H' : Hp} {n' : Nat} {s0' : Shared}, Inv X ([] ++ pinsAt fp s2.heap) σ3 H' s' → Nx H' → m ≤ n' → 
          Seg (model X.prog X.w) A (gEnd X k Qd) (gOut X k Qd) n' s0' (.compLoop (.GeneratorExp elt [⟨tg, iter, ifs, 0⟩] scope pos) 0 (.ref it) .none X.env) ((model X.prog X.w).den (.compLoop (.GeneratorExp elt [⟨tg, iter, ifs, 0⟩] scope pos) 0 (.ref it) .none X.env)) [] s' := fun {s' H' n' s0'} I' nx hle => by
        obtain ⟨m', hm, w'⟩ := hNx H' nx
        have pin' : ∀ b ∈ fp, ∀ o, s2.heap.get? b = some o → s'.heap.get? b = some o ∧ H' b = none := fun b hb o e =>
          let z := I'.pin (b, o) (List.mem_append_right _ (List.mem_append_right _ (mem_pinsAt hb e)))
          ⟨z.1, z.2.1⟩
        have hl : σ0.length = σ3.length := by rw [← w3, wipe_length]
        refine ih m' hm n' (i + 1) s0' s' H' (Nat.lt_of_lt_of_le hm hle) ((I'.unpinned (pins := [])).weak hl fun j v e => ?_) (T.keep _ _ _ st2 fun b hb o e => (pin' b hb o e).1) (fun b hb => ?_) w'
        · rw [← w3] at e
          exact (wipe_some e).1
        · obtain ⟨o, e, _⟩ := T.obj _ _ st2 b hb
          exact (pin' b hb o e).2
      cases b with
      | false =>
        simp only [Bool.false_eq_true, if_false] at q4 ⊢
        exact seg_again rfl (again I4 q4 (Nat.le_of_lt hmn))
      | true =>
        simp only [if_true] at q4 ⊢
        have hy : ∀ v, yieldOut X.env v = yieldValue v := fun v => by simp only [yieldOut, hco, Bool.false_eq_true, if_false]
        simp only [hy]
        rw [Sem.bind_eq_wrap', Sem.bind_eq_wrap', Sem.wrap_wrap, Sem.wrap_wrap]
        refine seg_wrap ?_
        rw [ov]
        refine none_xe (he.run _ s4 σ3 H4 _ I4 q4) fun v s5 ⟨yv, H5, I5, r5, t, trs, ty, tn'⟩ => ?_
        obtain ⟨n, rfl⟩ : ∃ n', n = n' + 1 := ⟨n - 1, by omega⟩
        refine seg_at (seg_yield rfl rfl rfl ⟨yv, H5, σ3, t, r5, I5.unpinned, trs X rfl rfl rfl, tn', fun e => ⟨by obtain ⟨m', hm, _⟩ := hNx H5 (ty e); omega, fun s' lk => ?_⟩⟩)
        exact seg_again rfl (again (lk.inv I5) (ty e) (Nat.le_of_lt_succ hmn))
end
end N
/-! NG2: any, all over such a generator. -/
namespace N
open PySem PySem.Spec PyProof.Rows L2 GenW
section
variable {X : Cx}
/-- it sleeps, it can be woken n times -/
structure Idle (X : Cx) (A : Around) (k : Bool) (Qd : Bool → Hp → Prop) (a : Addr) (gn n : Nat) (s : Shared) : Prop where
  gen : s.heap.IsGen a gn
  lim : s.heap.NoLimit
  bare : AllBare s.gens
  at_ : ∃ gs, s.gens[gn]? = some gs ∧ ∀ s', Like s s' → gs.Goes (model X.prog X.w) A (gEnd X k Qd) (gOut X k Qd) n (.send .none) s'
theorem like_set {s : Shared} {g : Nat} {x : GenState} (h : AllBare s.gens) (b : x.bare = true) : Like s (s.setGen g x) := ⟨rfl, rfl, allBare_setGen h b⟩
/-- one item or the end -/
theorem idle_next {A : Around} {k : Bool} {Qd : Bool → Hp → Prop} {a : Addr} {go : Obj} {gn n : Nat} {s : Shared} {Q : Option Value → Shared → Prop} {E : Value → Shared → Prop} (hgen : ∀ h : Heap, h.get? a = some go → h.IsGen a gn) (hpn : (a, go) ∈ X.pn) (hh : A.handled = none) (hroom : A.depth < recursionLimit)
    (d : Idle X A.in1 k Qd a gn n s) (h1 : ∀ (v : Value) (y : V) (H : Hp) (σ : L2.St) (t : Bool) (s' : Shared), RelV y v → Inv X [] σ H s' → TrS X y H t → (t ≠ k → Qd t H) → (t = k → ∃ m, Idle X A.in1 k Qd a gn m s' ∧ m < n) → Q (some v) s')
    (h2 : ∀ (H : Hp) (σ : L2.St) (s' : Shared), Inv X [] σ H s' → Qd k H → Q none s') : wpAny (model X.prog X.w) A (pyNext (.ref a)) Q E s := by
  obtain ⟨g1, g2, g3, gs, g4, g5⟩ := d
  have hlt : gn < s.gens.size := (Array.getElem?_eq_some_iff.mp g4).1
  refine wpAny_gsz (n := gn + 1) hlt ?_
  refine wpAny_pyNext_genexpQ (P := fun _ _ s1 => ∃ σ H, Inv X [] σ H s1 ∧ Qd k H) hh g2 hroom g1 g4 (g5 _ (like_set g3 rfl)) (fun v s1 gs' hb hv => ?_) (fun s1 hp h' hk => ?_)
  · obtain ⟨y, H, σ, t, r, I, tr, q1, q2⟩ := hv
    intro hz
    have hz' : gn < s1.gens.size := by rw [setGen_size] at hz; exact hz
    have I2 : Inv X [] σ H (s1.setGen gn gs') := (like_set I.bare hb).inv I
    refine h1 v y H σ t _ r I2 tr q1 fun e => ?_
    obtain ⟨hn, q3⟩ := q2 e
    have hp := (I.pin (a, go) (List.mem_append_left _ hpn)).1
    refine ⟨n - 1, ⟨hgen _ hp, I2.nolimit, I2.bare, gs', setGen_at hz', fun s' lk => ?_⟩, by omega⟩
    have lk' : Like s1 s' := ⟨lk.os, lk.heap, lk.bare⟩
    have q4 := q3 s' lk'
    cases n with
    | zero => exact q4.elim
    | succ n => exact q4
  · obtain ⟨σ, H, I, q⟩ := hp
    intro _
    have I2 : Inv X [] σ H (s1.setGen gn .finished) := (like_set I.bare rfl).inv I
    exact h2 H σ _ (I2.kept (t' := (s1.setGen gn .finished).toks) hk) q
theorem loop_all {A : Around} {R : Result → Shared → Prop} {Qd : Bool → Hp → Prop} {a : Addr} {go : Obj} {gn : Nat} (hgen : ∀ h : Heap, h.get? a = some go → h.IsGen a gn) (hpn : (a, go) ∈ X.pn) (hh : A.handled = none) (hroom : A.depth < recursionLimit)
    (fin : ∀ (t : Bool) (H : Hp) (σ : L2.St) (s' : Shared), Inv X [] σ H s' → Qd t H → R (.ok (.ret (.bool t))) s') :
    ∀ (n : Nat) (s : Shared), Idle X A.in1.in1 true Qd a gn n s → codeAny (model X.prog X.w) A (.builtin "all.loop" ⟨[.ref a], []⟩) R s := by
  intro n
  induction n using Nat.strongRecOn with
  | ind n ih =>
    intro s d
    refine codeAny_builtin F.entry_all_loop ?_
    rw [Around.under_plainId F.plain_all_loop _]
    show wpAny _ A.in1 (pyNext (.ref a) >>= _) _ _ s
    refine wpAny_bind (idle_next (A := A.in1) hgen hpn hh hroom d (fun v y H σ t s1 r I tr q1 q2 => ?_) fun H σ s1 I q => ?_)
    · refine wpAny_bind (wpAny_holding (tr [] σ s1 v _ _ _ I r hh fun tk => ?_))
      refine wpAny_bind (wpAny_letGo ?_)
      cases t with
      | true =>
        simp only [if_true]
        obtain ⟨m, dm, hm⟩ := q2 rfl
        have dm' : Idle X A.in1.in1 true Qd a gn m { s1 with toks := tk } := ⟨dm.gen, dm.lim, dm.bare, let ⟨gs, e1, e2⟩ := dm.at_; ⟨gs, e1, fun s' lk => e2 s' ⟨lk.os, lk.heap, lk.bare⟩⟩⟩
        exact wpAny_pure ⟨plainId_quiet F.plain_all_loop _, ih m hm _ dm'⟩
      | false =>
        simp only [Bool.false_eq_true, if_false]
        exact wpAny_bind (wpAny_rule (wpAny_pure (fin false H σ _ (I.tok tk) (q1 (fun z => nomatch z)))))
    · exact wpAny_bind (wpAny_rule (wpAny_pure (fin true H σ _ I q)))
theorem loop_any {A : Around} {R : Result → Shared → Prop} {Qd : Bool → Hp → Prop} {a : Addr} {go : Obj} {gn : Nat} (hgen : ∀ h : Heap, h.get? a = some go → h.IsGen a gn) (hpn : (a, go) ∈ X.pn) (hh : A.handled = none) (hroom : A.depth < recursionLimit)
    (fin : ∀ (t : Bool) (H : Hp) (σ : L2.St) (s' : Shared), Inv X [] σ H s' → Qd t H → R (.ok (.ret (.bool t))) s') :
    ∀ (n : Nat) (s : Shared), Idle X A.in1.in1 false Qd a gn n s → codeAny (model X.prog X.w) A (.builtin "any.loop" ⟨[.ref a], []⟩) R s := by
  intro n
  induction n using Nat.strongRecOn with
  | ind n ih =>
    intro s d
    refine codeAny_builtin F.entry_any_loop ?_
    rw [Around.under_plainId F.plain_any_loop _]
    show wpAny _ A.in1 (pyNext (.ref a) >>= _) _ _ s
    refine wpAny_bind (idle_next (A := A.in1) hgen hpn hh hroom d (fun v y H σ t s1 r I tr q1 q2 => ?_) fun H σ s1 I q => ?_)
    · refine wpAny_bind (wpAny_holding (tr [] σ s1 v _ _ _ I r hh fun tk => ?_))
      refine wpAny_bind (wpAny_letGo ?_)
      cases t with
      | false =>
        simp only [Bool.false_eq_true, if_false]
        obtain ⟨m, dm, hm⟩ := q2 rfl
        have dm' : Idle X A.in1.in1 false Qd a gn m { s1 with toks := tk } := ⟨dm.gen, dm.lim, dm.bare, let ⟨gs, e1, e2⟩ := dm.at_; ⟨gs, e1, fun s' lk => e2 s' ⟨lk.os, lk.heap, lk.bare⟩⟩⟩
        exact wpAny_pure ⟨plainId_quiet F.plain_any_loop _, ih m hm _ dm'⟩
      | true =>
        simp only [if_true]
        exact wpAny_bind (wpAny_rule (wpAny_pure (fin true H σ _ (I.tok tk) (q1 (fun z => nomatch z)))))
    · exact wpAny_bind (wpAny_rule (wpAny_pure (fin false H σ _ I q)))
end
end N
/-! NG3: any, all of a generator expression, as a value. -/
namespace N
open PySem PySem.Spec PyProof.Rows L2 GenW
/-- any, all (elt for tg in iter if ..): vs the generator's own names; T the running code's table -/
def tGq (P : Program) (w : World) (K : PySem.W.Frag) (k : Bool) (tb : Addr) (wi : TI) (g : TG) (tt : TT) (te : TE) (vs : List Nat) : TE := fun σ H Q => wi σ H fun J H1 => GxR.TabG H1 tb ∧ ∀ H2, GxR.Tabbed tb H1 H2 → ∃ W : Nat → Nat → Hp → Prop, (∃ m, W 0 m H2) ∧ ∀ i m H, W i m H →
  (J.stop i H ∧ Q (.bl k) H) ∨ (J.go i H ∧ ∃ Nx : Hp → Prop, (∀ H', Nx H' → ∃ m', m' < m ∧ W (i + 1) m' H') ∧
    ∀ x H', J.yld i H x H' → g x (wipe σ vs) H' fun σ2 H2 => wipe σ2 vs = wipe σ vs ∧ tt σ2 H2 fun b H3 => if b = true then te σ2 H3 fun y H4 => ∃ t, TrA P w K y H4 t ∧ (t = k → Nx H4) ∧ (t ≠ k → Q (.bl t) H4) else Nx H3)
section
variable {X : Cx}
/-- the code object is there, or is made: its table grows -/
theorem gen_code {c P : Addr} {gpos : Pos} {q : Str} {scope : Scope} {pins : List (Addr × Obj)} {σ : L2.St} {H : Hp} {s : Shared} {Q : Value → Shared → Prop} {E : Value → Shared → Prop} (TB : GxR.TabB X.base X.mg c P) (hcode : X.env.code = .ref c) (I : Inv X pins σ H s) (ht : GxR.TabG H P)
    (h : ∀ code H2 h2 tk, GxR.Tabbed P H H2 → Inv X pins σ H2 { s with heap := h2, toks := tk } → (∀ b o, b ≠ P → s.heap.get? b = some o → h2.get? b = some o) → s.heap.objs.size ≤ h2.objs.size → Q code { s with heap := h2, toks := tk }) :
    wpAny (model X.prog X.w) X.A (genexprCode X.env gpos q scope) Q E s := by
  obtain ⟨ps, hP, tr⟩ := ht
  have hPs : s.heap.get? P = some { cls := .none, data := .fields ps } := I.hok P _ hP
  have cd : PySem.W.CodeHd s.heap c P := TB.code.keeps fun b u e => I.bk b u e
  cases hf : codeAmong gpos ps.toList with
  | some cv =>
    refine wpAny_genexprCode_hit hcode (cd.code hPs tr) hf ?_
    exact h cv H s.heap s.toks ⟨⟨ps, hP, tr⟩, fun _ _ => rfl⟩ I (fun _ _ _ e => e) (Nat.le_refl _)
  | none =>
    refine wpAny_genexprCodeX hcode (cd.code hPs tr) (cd.tab hPs) hf fun c' h' tk hx hge hlt hco' _ htab' _ => ?_
    obtain ⟨o1, vs, f1, tf, fl, tg, inF, tx, tt, op, _, _, _, _, _, _, _, _, _, htr, _⟩ := hco'
    have J := GxR.inv_tab (more := #[rawInt gpos.line, rawInt gpos.col, .ref c']) (h' := h') (g' := s.gens) (d' := s.drawn) (t' := tk) I hP (fun b u hb e => hx b u hb e) htab'.2 I.bare
    exact h _ (upd H P (.tbl (ps ++ #[rawInt gpos.line, rawInt gpos.col, .ref c']))) h' tk ⟨⟨_, upd_same, htr⟩, fun b hb => upd_ne hb⟩ J (fun b o hb e => hx b o hb e) (Nat.le_trans hge (Nat.le_of_lt hlt))
theorem gen_bi {c P : Addr} {pins : List (Addr × Obj)} {σ : L2.St} {H : Hp} {s : Shared} {Q : Addr → Shared → Prop} {E : Value → Shared → Prop} (TB : GxR.TabB X.base X.mg c P) (I : Inv X pins σ H s) (h : Q builtinsNs s) : wpAny (model X.prog X.w) X.A (builtinsFor X.env.globals X.env.builtins) Q E s := by
  obtain ⟨bm, ob, e1, e2, e3, e4, e5, e6, e7, e8⟩ := TB.bm
  exact wpAny_builtinsFor (m := X.mg) (by rw [I.ok.glob]; exact I.ok.mod.glob.keeps I.bk) e1 e2 (I.bk _ _ e5) e6 e7 e8 h
/-- all the contexts that the body may run in -/
abbrev GIx := Shared × Hp × Around × Addr × Value × List Addr × List (Addr × Obj)
abbrev genX (X : Cx) (scope : Scope) (i : GIx) : Cx := gX X i.1 i.2.1 i.2.2.1 (genEnv scope (cloFrom X.env.cells scope.names []) i.2.2.2.1 i.2.2.2.2.1 builtinsNs X.env) i.2.2.2.2.2.1 i.2.2.2.2.2.2
/-- from the start of its code -/
theorem seg_gq0 {A : Around} {tg elt iter : Expr} {ifs : List Expr} {scope : Scope} {pos : Pos} {it : Addr} {fp : List Addr} {tn : Nat → Heap → Prop} {J : It} {k : Bool} {Qd : Bool → Hp → Prop} {g : TG} {tt : TT} {te : TE} {σ0 : L2.St} {vs : List Nat} {W : Nat → Nat → Hp → Prop}
    (hov : X.A = A.deeper X.env) (hxe : X.xe = fun _ _ => False) (hco : X.env.scope.isCoroutine = false) (hc : X.calm = true) (T : Turn X.prog X.w X.K tg J fp it tn) (hg : PG X tg g) (ht : PTs X ifs tt) (he : PE X elt te) (hw : wipe σ0 vs = σ0) (turn : tTurn X k Qd J g tt te σ0 vs W)
    (stat : ∀ {σ' : L2.St} {H' : Hp} {s' : Shared}, Inv X [] σ' H' s' → (∀ b ∈ fp, H' b = none) → ∀ b ∈ fp, FpOk X [] H' b) {m : Nat} {s0 s : Shared} {H : Hp} (I : Inv X [] σ0 H s) (st : tn 0 s.heap) (fr : ∀ b ∈ fp, H b = none) (w0 : W 0 m H) :
    Seg (model X.prog X.w) A (gEnd X k Qd) (gOut X k Qd) (m + 1) s0 (.compStart (.GeneratorExp elt [⟨tg, iter, ifs, 0⟩] scope pos) 0 (.ref it) .none X.env) ((model X.prog X.w).den (.compStart (.GeneratorExp elt [⟨tg, iter, ifs, 0⟩] scope pos) 0 (.ref it) .none X.env)) [] s := by
  have loop := seg_gq (iter := iter) (scope := scope) (pos := pos) hov hxe hco hc T hg ht he hw turn stat m (m + 1) 0 s0 s H (Nat.lt_succ_self m) I st fr w0
  show Seg _ A _ _ _ s0 _ ((compStart (.GeneratorExp elt [⟨tg, iter, ifs, 0⟩] scope pos) 0 (.ref it) .none X.env).onRaise (leaving X.env)) [] s
  unfold compStart
  rw [Sem.onRaise_eq_wrap]
  show Seg _ A _ _ _ s0 _ ((ask >>= _).wrap _ _ _ _) [] s
  refine seg_bind_wrap (wpAny_askSetting ?_)
  split
  · exact seg_again rfl loop
  · first
      | exact seg_bind_wrap (wpAny_rule (seg_bind_wrap (wpAny_standAt (seg_bind_wrap (T.self _ 0 s _ _ st (seg_again rfl loop))))))
      | (refine seg_bind_wrap (wpAny_rule ?_); show Seg _ A _ _ _ s0 _ ((standAt iter.pos >>= _).wrap _ _ _ _) [] s; exact seg_bind_wrap (wpAny_standAt (seg_bind_wrap (T.self _ 0 s _ _ st (seg_again rfl loop)))))
/-- a generator is made -/
def Made (X : Cx) (pins : List (Addr × Obj)) (σ : L2.St) (k : Bool) (Q : VK) (v : Value) (s : Shared) : Prop := ∃ (Xg : Cx) (a : Addr) (go : Obj) (gn n : Nat), v = .ref a ∧ (∀ h : Heap, h.get? a = some go → h.IsGen a gn) ∧ (a, go) ∈ Xg.pn ∧ (Xg.prog = X.prog ∧ Xg.w = X.w) ∧
  Idle Xg X.A.in1.in1 k (fun t H => Q (.bl t) H) a gn n s ∧ ∀ σ' H' s', Inv Xg [] σ' H' s' → Inv X pins σ H' s'
theorem gen_make {c P : Addr} {k : Bool} {kr : Nat} {elt tg iter : Expr} {ifs : List Expr} {scope : Scope} {own : List (Str × Nat)} {gpos : Pos} {wi : TI} {g : TG} {tt : TT} {te : TE} {pins : List (Addr × Obj)} {σ : L2.St} {H : Hp} {s : Shared} {Q : VK}
    (hr : Room (kr + 1) X.A) (hN : X.N.Nodup) (TB : GxR.TabB X.base X.mg c P) (hcode : X.env.code = .ref c) (hc : X.calm = true) (ok : BlkOk X.N X.env.scope scope own) (nc : ∀ y ∈ scope.names, y.2 ≠ .cell) (hco : scope.isCoroutine = false) (h0 : scope.names.lookup (".0" : Str) = some NameKind.local)
    (hs : ∀ v, genFold iter X.env v = pure v) (hi : PI X tg iter wi) (hg : ∀ i : GIx, Room kr (genX X scope i).A → PG (genX X scope i) tg g) (ht : ∀ i : GIx, Room kr (genX X scope i).A → PTs (genX X scope i) ifs tt) (he : ∀ i : GIx, Room kr (genX X scope i).A → PE (genX X scope i) elt te)
    (I : Inv X pins σ H s) (h : tGq X.prog X.w X.K k P wi g tt te (own.map (·.2)) σ H Q) : wpAny (model X.prog X.w) X.A (eval (.GeneratorExp elt [⟨tg, iter, ifs, 0⟩] scope gpos) X.env) (Made X pins σ k Q) X.xe s := by
  have hfree : ∀ y ∈ scope.names, y.2 = .free → ∃ c, X.env.cells.lookup y.1 = some c := fun y hy e => by
    rcases ok.free y hy e with q | q
    · exact I.ok.has _ (.inl q)
    · exact I.ok.has _ (.inr q)
  refine wpAny_GeneratorExp_make hco (closure_ok hfree) nc h0 ok.kind (by have := hr.dp; omega) ?_ hs
  refine thn (hi.run pins s σ H _ I h) fun xv s1 hx => thn hx fun itv s2 h2 => ?_
  obtain ⟨it, fp, tn, J, H1, e, I2, T, st2, f2, ⟨tb, q⟩⟩ := h2
  subst e
  refine ⟨I2.nolimit, gen_code TB hcode I2 tb fun code H2 h3 tk3 tbd I3 kp3 sz3 => gen_bi TB I3 fun h5 hns hsb => ?_⟩
  obtain ⟨W, ⟨m0, w0⟩, turn⟩ := q H2 tbd
  -- the state behind it
  generalize hs3 : ({ s2 with heap := h3, toks := tk3 } : Shared) = s3 at I3 hns hsb ⊢
  have hh3 : s3.heap = h3 := by rw [← hs3]
  have fpP : ∀ b ∈ fp, b ≠ P := fun b hb z => by
    obtain ⟨ps, e, _⟩ := tb
    have q := (f2 b hb).1
    rw [z, e] at q
    cases q
  have kp : ∀ b ∈ fp, ∀ o, s2.heap.get? b = some o → s3.heap.get? b = some o := fun b hb o e => by rw [hh3]; exact kp3 b o (fpP b hb) e
  have st3 : tn 0 s3.heap := T.keep _ _ _ st2 kp
  have sz : ∀ b ∈ fp, b < s3.heap.objs.size := fun b hb => by
    obtain ⟨o, e, _⟩ := T.obj _ _ st2 b hb
    exact Heap.lt_size (kp b hb o e)
  have f3 : ∀ b ∈ fp, FpOk X pins H2 b ∧ b < s3.heap.objs.size := fun b hb => ⟨⟨by rw [tbd.2 b (fpP b hb)]; exact (f2 b hb).1, (f2 b hb).2⟩, sz b hb⟩
  have lt5 : s3.heap.objs.size < h5.objs.size := hns.lt
  generalize hgo : ({ cls := .type "generator", data := .fields #[.int s3.gens.size 0, .str "<genexpr>" (s3.toks + 1), .str (X.env.qual ++ "<genexpr>") (s3.toks + 1 + 1)] } : Obj) = go
  have kp5 : ∀ b o, s3.heap.get? b = some o → (h5.push go).get? b = some o := fun b o e => Heap.get?_push_of_some _ (hsb.extBut b o (Nat.ne_of_lt (Heap.lt_size e)) (Heap.get?_push_of_some _ e))
  have hga : (h5.push go).get? h5.objs.size = some go := Heap.get?_push_size _ (by rw [← hgo]; rfl)
  have hgen : ∀ h : Heap, h.get? h5.objs.size = some go → h.IsGen h5.objs.size s3.gens.size := fun h e => by
    rw [← hgo] at e
    exact ⟨_, _, _, e, rfl, rfl, rfl⟩
  have hcell : ∀ v, go.data ≠ .cell v := fun v z => by rw [← hgo] at z; cases z
  have hA : (X.A.in1.in1).frames = some X.stack := I.ok.frames
  have hh : (X.A.in1.in1).handled = none := hr.hd
  generalize hgs : GenState.fresh (.compStart (.GeneratorExp elt [⟨tg, iter, ifs, 0⟩] scope gpos) 0 (.ref it) .none (genEnv scope (cloFrom X.env.cells scope.names []) s3.heap.objs.size code builtinsNs X.env)) = gs
  have bare5 : AllBare (s3.gens.push gs) := AllBare.push I3.bare (by rw [← hgs]; rfl)
  have start : ∀ (g' : Array GenState) (t' : Nat), AllBare g' → Inv (genX X scope (s3, H2, X.A.in1.in1, s3.heap.objs.size, code, fp, [(h5.objs.size, go)])) [] (wipe σ (own.map (·.2))) H2 { s3 with heap := h5.push go, gens := g', toks := t' } := fun g' t' ag =>
    gen_start I3 ok hN nc f3 hA hh kp5 (hns.push _) ag hga lt5 hcell
  have room := room_gen hr (genEnv scope (cloFrom X.env.cells scope.names []) s3.heap.objs.size code builtinsNs X.env)
  refine ⟨genX X scope (s3, H2, X.A.in1.in1, s3.heap.objs.size, code, fp, [(h5.objs.size, go)]), h5.objs.size, go, s3.gens.size, m0 + 1, rfl, hgen, List.mem_singleton.mpr rfl, ⟨rfl, rfl⟩, ⟨hgen _ hga, I3.nolimit.keeps kp5, bare5, gs, Array.getElem?_push_size .., fun s' lk => ?_⟩, fun σ' H' s' J => gen_back I3 (fun b hb => (f3 b hb).1) J⟩
  have I5 := lk.inv (start _ _ bare5)
  rw [← hgs]
  refine ⟨rfl, seg_gq0 (X := genX X scope (s3, H2, X.A.in1.in1, s3.heap.objs.size, code, fp, [(h5.objs.size, go)])) (A := X.A.in1.in1) (J := J) (k := k) (Qd := fun t H => Q (.bl t) H) (g := g) (tt := tt) (te := te) (σ0 := wipe σ (own.map (·.2))) (vs := own.map (·.2)) (W := W) (m := m0) (H := H2) rfl rfl hco hc T (hg _ room) (ht _ room) (he _ room) wipe_idem (fun i m H w => ?_) (fun {σ' H' s'} J hn b hb => ?_) I5 ?_ (fun b hb => (f3 b hb).1.1) w0⟩
  · rcases turn i m H w with z | ⟨go', Nx, hNx, z⟩
    · exact .inl z
    · exact .inr ⟨go', Nx, hNx, z⟩
  · refine ⟨hn b hb, (J.ok.exf b hb).1, J.ok.exfs b hb, .inl hb, fun x c e => (J.ok.exf b hb).2 x c e, fun p hp z => ?_⟩
    have e : p = (h5.objs.size, go) := by simpa using hp
    rw [e] at z
    have q := sz b hb
    rw [← z] at q
    exact Nat.lt_irrefl _ (Nat.lt_trans q lt5)
  · rw [lk.heap]
    exact T.keep _ _ _ st3 fun b hb o e => kp5 b o e
/-- all(..), any(..) of it -/
theorem pe_gq {c P : Addr} {k : Bool} {kr : Nat} {elt tg iter : Expr} {ifs : List Expr} {scope : Scope} {own : List (Str × Nat)} {p gpos pos : Pos} {wi : TI} {g : TG} {tt : TT} {te : TE}
    (hgl : Gl X (if k then "all" else "any")) (hm : X.mg (if k then "all" else "any") = none)
    (hr : Room (kr + 1) X.A) (hN : X.N.Nodup) (TB : GxR.TabB X.base X.mg c P) (hcode : X.env.code = .ref c) (hc : X.calm = true) (ok : BlkOk X.N X.env.scope scope own) (nc : ∀ y ∈ scope.names, y.2 ≠ .cell) (hco : scope.isCoroutine = false) (h0 : scope.names.lookup (".0" : Str) = some NameKind.local)
    (hs : ∀ v, genFold iter X.env v = pure v) (hi : PI X tg iter wi) (hg : ∀ i : GIx, Room kr (genX X scope i).A → PG (genX X scope i) tg g) (ht : ∀ i : GIx, Room kr (genX X scope i).A → PTs (genX X scope i) ifs tt) (he : ∀ i : GIx, Room kr (genX X scope i).A → PE (genX X scope i) elt te) :
    PE X (.Call (.Name (if k then "all" else "any") p) [.GeneratorExp elt [⟨tg, iter, ifs, 0⟩] scope gpos] [] pos) (tGq X.prog X.w X.K k P wi g tt te (own.map (·.2))) := by
  refine ⟨fun pins s σ H Q I h => ?_⟩
  have hd : X.A.depth < recursionLimit := by have := hr.dp; omega
  have arg : starEach [.GeneratorExp elt [⟨tg, iter, ifs, 0⟩] scope gpos] X.env = (false, eval (.GeneratorExp elt [⟨tg, iter, ifs, 0⟩] scope gpos) X.env) :: starEach [] X.env := rfl
  have use : ∀ {f : Value}, (∀ v s5, Made X pins σ k Q v s5 → wpAny (model X.prog X.w) X.A (call f [v]) (EP X pins σ Q) X.xe s5) → wpAny (model X.prog X.w) X.A (spliced (backTo pos (starEach [.GeneratorExp elt [⟨tg, iter, ifs, 0⟩] scope gpos] X.env))) (fun vs s5 => wpAny (model X.prog X.w) X.A (call f vs) (EP X pins σ Q) X.xe s5) X.xe s := fun {f} hf => by
    rw [arg]
    refine Calls.spliced_cons (thn (gen_make (k := k) hr hN TB hcode hc ok nc hco h0 hs hi hg ht he I h) fun v s5 md => ?_)
    exact Calls.spliced_nil (hf v s5 md)
  cases k with
  | true =>
    refine wpAny_Call_Name_kw (ld_blt I hgl hm (show bootBuiltins (Str.ofString "all") = some (.builtin "all") by decide +kernel) ?_)
    refine PyProof.Rows.callWith_builtin1 (use fun v s5 ⟨Xg, a, go, gn, n, ev, q1, q2, ⟨q3, q4⟩, q5, q6⟩ => ?_) arg rfl
    subst ev
    refine call_function_tree F.kind_all F.plain_all F.entry_all (F.args_all1 _) ?_
    unfold Builtin.«all»
    refine wpAny_bind (m := oneArg "all" _) (wpAny_pure ?_)
    refine wpAny_bind (wpAny_pyIter_gen q5.gen ?_)
    refine wpAny_pure ⟨plainId_quiet F.plain_all_loop _, ?_⟩
    rw [← q3, ← q4]
    exact loop_all (X := Xg) q1 q2 hr.hd hd (fun t H σ' s' J q => ⟨.bl t, H, q6 σ' H s' J, rfl, q⟩) n _ q5
  | false =>
    refine wpAny_Call_Name_kw (ld_blt I hgl hm boot_any ?_)
    refine PyProof.Rows.callWith_builtin1 (use fun v s5 ⟨Xg, a, go, gn, n, ev, q1, q2, ⟨q3, q4⟩, q5, q6⟩ => ?_) arg rfl
    subst ev
    refine call_function_tree F.kind_any F.plain_any F.entry_any (F.args_any1 _) ?_
    unfold Builtin.«any»
    refine wpAny_bind (m := oneArg "any" _) (wpAny_pure ?_)
    refine wpAny_bind (wpAny_pyIter_gen q5.gen ?_)
    refine wpAny_pure ⟨plainId_quiet F.plain_any_loop _, ?_⟩
    rw [← q3, ← q4]
    exact loop_any (X := Xg) q1 q2 hr.hd hd (fun t H σ' s' J q => ⟨.bl t, H, q6 σ' H s' J, rfl, q⟩) n _ q5
end
end N
/-! N6: contexts; expressions do what sm says. -/
namespace N
open PySem PySem.Spec PyProof.Rows L2

def BN : List Str := ["len", "int", "abs", "min", "max", "sum", "list", "tuple", "sorted", "any", "all", "isinstance", "bool", "str", "dict", "range", "zip", "enumerate", "set"]
def slotA : AV → Slot
  | .d x => .d x
  | .m x => .m true x
def resS : AV → Slot
  | .d x => .d x
  | .m x => .m false x
def ownS : Option Mu → Slot
  | some m => .m true m
  | none => .u
/-- a def's promise: from arguments that stand for values, an answer that stands for what φ gives -/
def SpF (w : Wd) (np : Nat) (φ : List AV → Res (AV × Option Mu)) : Sp := fun vs H Q E => vs.length = np ∧ ∃ (pv : V) (args : List AV) (G : Hp) (F : Fp),
  (∀ m r, args = .m m :: r → vs.head? = some pv) ∧ StOk w pv (args.map slotA) (vs.map some) H G F ∧
    Post w H G F (φ args) (fun p H' G' F' => ∀ v, StOk w pv [resS p.1, ownS p.2] [some v, some pv] H' G' F' → Q v H') (fun c H' => E (.ref (w.ca c)) none H')
def FnsOk (w : Wd) (k : Nat) (prog : Program) (wo : World) (mg : Str → Option Value) (base : Heap) : Prop := ∀ i F, w.P.fns[i]? = some F →
  ∃ f fd, mg F.name = some (.ref f) ∧ PySem.W.keepIn w.K (.ref f) = true ∧ Binds w.K fd (F.N.take F.np) [] ∧ FnOk prog wo w.K mg base (L2.CX prog wo) (3 * k) f fd (F.N.take F.np) (SpF w F.np (callF w.P k i))
/-- what is known of the module's names -/
structure Mgs (w : Wd) (mg : Str → Option Value) : Prop where
  blt : ∀ x ∈ BN, mg x = none
  con : ∀ x d, w.P.C.lookup x = some d → ∃ u v, mg x = some u ∧ RelV v u ∧ ∀ G, Rp w.K G v d
structure Cok (w : Wd) (kc : Kc) (k : Nat) (X : Cx) (W : WX) : Prop where
  hN : X.N = kc.N
  nd : kc.N.Nodup
  hsc : X.env.scope = kc.sc
  hfb : X.fn = kc.fb
  hP : kc.P = w.P
  calm : X.calm = true
  room : Room (3 * k + kc.sl) X.A
  hK : X.K = w.K
  takes : Takes X W
  fns : FnsOk w k X.prog X.w X.mg X.base
  mgs : Mgs w X.mg
  cod : ∀ j, kc.co = some j → ∃ p, w.tabs[j]? = some p ∧ X.env.code = .ref p.1 ∧ GxR.TabB X.base X.mg p.1 p.2

section
variable {w : Wd} {kc : Kc} {k : Nat} {X : Cx} {W : WX} {pv : V} {σa : En} {σ : L2.St} {H G : Hp} {F : Fp} {E A B I T : Expr}
def WpE (X : Cx) (E : Expr) : TE := fun σ H Q => ∀ pins s, Inv X pins σ H s → wpAny (model X.prog X.w) X.A (eval E X.env) (EP X pins σ Q) X.xe s
def WpT (X : Cx) (E : Expr) : TT := fun σ H Q => ∀ pins s, Inv X pins σ H s → wpAny (model X.prog X.w) X.A (isTrue E X.env (eval E X.env)) (TP X pins σ Q) X.xe s
def WpW (X : Cx) (E : Expr) : TT := fun σ H Q => ∀ whole pins s, Inv X pins σ H s → wpAny (model X.prog X.w) X.A (isTrue E X.env whole) (TP X pins σ Q) X.xe s
def WpA (X : Cx) (Es : List Expr) : TA := fun σ H Q => ∀ (pos : Pos) pins s, Inv X pins σ H s → wpAny (model X.prog X.w) X.A (spliced (backTo pos (starEach Es X.env))) (AP X pins σ Q) X.xe s
theorem peW : PE X E (WpE X E) := ⟨fun pins s σ H Q I h => h pins s I⟩
theorem ptW : PT X E (WpT X E) := ⟨fun pins s σ H Q I h => h pins s I⟩
theorem pwW : PW X E (WpW X E) := ⟨fun wh pins s σ H Q I h => h wh pins s I⟩
theorem paW {Es : List Expr} : PA X Es (WpA X Es) := ⟨fun pos pins s σ H Q I h => h pos pins s I⟩
theorem ofPE {t : TE} (p : PE X E t) {Q : VK} (h : t σ H Q) : WpE X E σ H Q := fun pins s I => p.run pins s σ H Q I h
theorem ofPT {t : TT} (p : PT X E t) {Q : Bool → Hp → Prop} (h : t σ H Q) : WpT X E σ H Q := fun pins s I => p.run pins s σ H Q I h
theorem ofPW {t : TT} (p : PW X E t) {Q : Bool → Hp → Prop} (h : t σ H Q) : WpW X E σ H Q := fun wh pins s I => p.run wh pins s σ H Q I h
theorem ofPA {Es : List Expr} {t : TA} (p : PA X Es t) {Q : List V → Hp → Prop} (h : t σ H Q) : WpA X Es σ H Q := fun pos pins s I => p.run pos pins s σ H Q I h
theorem WpE.mono {Q Q' : VK} (h : WpE X E σ H Q) (i : ∀ v H', Q v H' → Q' v H') : WpE X E σ H Q' := fun pins s I => thn (h pins s I) fun u s' ⟨v, H', I', r, q⟩ => ⟨v, H', I', r, i v H' q⟩

/-- wanted behind an expression, a test, a list of expressions -/
def KE (w : Wd) (pv : V) (σ : L2.St) (Q : VK) : Ko (D × En) := fun p H' G' F' => StOk w pv p.2 σ H' G' F' → ∀ v, Rp w.K G' v p.1 → Q v H'
def KT (w : Wd) (pv : V) (σ : L2.St) (Q : Bool → Hp → Prop) : Ko (Bool × En) := fun p H' G' F' => StOk w pv p.2 σ H' G' F' → Q p.1 H'
def KA (w : Wd) (pv : V) (σ : L2.St) (Q : List V → Hp → Prop) : Ko (List D × En) := fun p H' G' F' => StOk w pv p.2 σ H' G' F' → ∀ vs, RpAll w.K G' vs p.1 → Q vs H'
def KX (w : Wd) (W : WX) (σ : L2.St) : Str → Hp → Prop := fun c H' => W (.ref (w.ca c)) none σ H'
def SE (w : Wd) (X : Cx) (W : WX) (E : Expr) (f : En → Res (D × En)) : Prop := ∀ (pv : V) (σa : En) (σ : L2.St) (H G : Hp) (F : Fp) (Q : VK), StOk w pv σa σ H G F → Post w H G F (f σa) (KE w pv σ Q) (KX w W σ) → WpE X E σ H Q
def STe (w : Wd) (X : Cx) (W : WX) (E : Expr) (f : En → Res (Bool × En)) : Prop := ∀ (pv : V) (σa : En) (σ : L2.St) (H G : Hp) (F : Fp) (Q : Bool → Hp → Prop), StOk w pv σa σ H G F → Post w H G F (f σa) (KT w pv σ Q) (KX w W σ) → WpT X E σ H Q
def SW (w : Wd) (X : Cx) (W : WX) (E : Expr) (f : En → Res (Bool × En)) : Prop := ∀ (pv : V) (σa : En) (σ : L2.St) (H G : Hp) (F : Fp) (Q : Bool → Hp → Prop), StOk w pv σa σ H G F → Post w H G F (f σa) (KT w pv σ Q) (KX w W σ) → WpW X E σ H Q
def SA (w : Wd) (X : Cx) (W : WX) (Es : List Expr) (f : En → Res (List D × En)) : Prop := ∀ (pv : V) (σa : En) (σ : L2.St) (H G : Hp) (F : Fp) (Q : List V → Hp → Prop), StOk w pv σa σ H G F → Post w H G F (f σa) (KA w pv σ Q) (KX w W σ) → WpA X Es σ H Q
def opK (k : Bool) : BoolOp := if k then .And else .Or
structure Snd (w : Wd) (e : Ex) : Prop where
  v : ∀ {kc k X W E}, Cok w kc k X W → (ck e).e kc E = true → SE w X W E (sm w.P.C (callF w.P k) e).v
  t : ∀ {kc k X W E}, Cok w kc k X W → (ck e).e kc E = true → STe w X W E (sm w.P.C (callF w.P k) e).t
  b : ∀ {kc k X W kb Es}, Cok w kc k X W → (ck e).b kc kb Es = true → ∀ pos, SE w X W (.BoolOp (opK kb) Es pos) (sm w.P.C (callF w.P k) e).v ∧ SW w X W (.BoolOp (opK kb) Es pos) (sm w.P.C (callF w.P k) e).t

/-! ### small facts of shapes -/
theorem good_star {es : List Expr} {env : PySem.Env} (g : goodE E = true) : starEach (E :: es) env = (false, eval E env) :: starEach es env := by
  cases E <;> first | rfl | cases g
theorem good_folded {env : PySem.Env} (g : goodE E = true) : ∀ x, foldedSetIterable E env x = pure x := by
  intro x
  cases E <;> first | rfl | cases g
theorem good_mark {op : CmpOp} (g : goodE E = true) : behindInMarks op E = false := by
  cases E <;> first | rfl | cases g
theorem good_ix (g : goodE E = true) : PlainIx E := by
  intro o i
  cases E <;> first | rfl | cases g
def plainT : Expr → Bool
  | .UnaryOp .Not _ _ => false
  | .BoolOp .. => false
  | .IfExp .. => false
  | .Compare .. => false
  | _ => true
theorem plain_true {env : PySem.Env} (g : plainT E = true) : ∀ whole, isTrue E env whole = (do let v ← whole; standAt E.pos; holding [v] (truthy v)) := by
  intro whole
  cases E <;> first
    | rfl
    | (exfalso; exact Bool.noConfusion g)
    | (rename_i op x p; cases op <;> first | rfl | (exfalso; exact Bool.noConfusion g))
theorem okN_d {x : Str} (h : okN x = true) : (x == ("__debug__" : Str)) = false ∧ (x == ("__classdict__" : Str)) = false ∧ x ≠ "__name__" := by
  unfold okN at h
  simp only [Bool.and_eq_true, Bool.not_eq_true'] at h
  exact ⟨h.1, h.2.1, fun z => by rw [z] at h; have := h.2.2; simp at this⟩
theorem vis_of {sc : Scope} {x : Str} (h : visB sc x = true) : Vis sc x := by
  unfold visB at h
  unfold Vis
  cases e : sc.names.lookup x with
  | none => rw [e] at h; cases h
  | some q => rw [e] at h; cases q <;> first | exact Bool.noConfusion h | exact .inl rfl | exact .inr (.inl rfl) | exact .inr (.inr rfl)
theorem gl_of (c : Cok w kc k X W) {x : Str} (h : kc.gl x = true) : Gl X x ∧ okN x = true := by
  unfold Kc.gl at h
  rw [Bool.and_eq_true] at h
  refine ⟨?_, h.2⟩
  unfold Gl PySem.Env.kindOf
  rw [c.hsc]
  have q := h.1
  unfold glB at q
  cases e : kc.sc.names.lookup x with
  | none => rw [e] at q; cases q
  | some z => rw [e] at q; cases z <;> first | exact Bool.noConfusion q | rfl
theorem var_of (c : Cok w kc k X W) {i : Nat} {x : Str} {pos : Pos} (h : kc.var i x = true) : PE X (.Name x pos) (tVar i) := by
  unfold Kc.var at h
  simp only [Bool.and_eq_true, decide_eq_true_eq] at h
  obtain ⟨h1, h2, h3⟩ := h
  obtain ⟨d1, d2, _⟩ := okN_d h3
  exact pe_var (by rw [c.hN]; exact h1) (by rw [c.hsc]; exact vis_of h2) d1 d2
theorem blt_none (c : Cok w kc k X W) {x : Str} (h : x ∈ BN) : X.mg x = none := c.mgs.blt x h
/-- a node of a plain kind, whose test is its value's truth -/
theorem truth_of (c : Cok w kc k X W) (g : plainT E = true) {f : En → Res (D × En)} (h : SE w X W E f) : STe w X W E (Sm.of f).t := fun pv σa σ H G F Q st p => by
  refine ofPT (pt_truth peW (plain_true g)) (h pv σa σ H G F _ st ?_)
  refine Post.then p fun q H' G' F' _ _ z st' v r => ?_
  obtain ⟨t, e, z⟩ := z.ofO
  exact ⟨t, tru_of (w := w) (H' := H') c.hK e st' r (fun kvs y => by rw [y] at e; cases e), z.here st'⟩
theorem snd_of {e : Ex} {f : Kc → Expr → Bool} (hc : ck e = Ck.of f) (hv : ∀ {kc k X W E}, Cok w kc k X W → goodE E = true → f kc E = true → SE w X W E (sm w.P.C (callF w.P k) e).v)
    (ht : ∀ {kc k X W E}, Cok w kc k X W → goodE E = true → f kc E = true → STe w X W E (sm w.P.C (callF w.P k) e).t) : Snd w e := by
  have q : ∀ {kc : Kc} {E : Expr}, (ck e).e kc E = true → goodE E = true ∧ f kc E = true := fun {kc E} h => by
    rw [hc] at h
    have h' : (goodE E && f kc E) = true := h
    rwa [Bool.and_eq_true] at h'
  refine ⟨fun c h => hv c (q h).1 (q h).2, fun c h => ht c (q h).1 (q h).2, fun {kc k X W kb Es} c h pos => ?_⟩
  rw [hc] at h
  cases Es with
  | nil => exact Bool.noConfusion h
  | cons E r =>
    cases r with
    | cons _ _ => exact Bool.noConfusion h
    | nil =>
      have h' : (goodE E && f kc E) = true := h
      rw [Bool.and_eq_true] at h'
      refine ⟨fun pv σa σ H G F Q st p => ofPE (pe_one peW) (hv c h'.1 h'.2 pv σa σ H G F Q st p), fun pv σa σ H G F Q st p => ?_⟩
      cases kb with
      | true => exact ofPW (pw_and1 ptW) (ht c h'.1 h'.2 pv σa σ H G F Q st p)
      | false => exact ofPW (pw_or1 ptW) (ht c h'.1 h'.2 pv σa σ H G F Q st p)
theorem snd_plain {e : Ex} {f : Kc → Expr → Bool} (hc : ck e = Ck.of f) {g : Nat → En → Res (D × En)} (hs : ∀ k, sm w.P.C (callF w.P k) e = Sm.of (g k)) (pl : ∀ kc E, f kc E = true → plainT E = true)
    (hv : ∀ {kc k X W E}, Cok w kc k X W → goodE E = true → f kc E = true → SE w X W E (g k)) : Snd w e :=
  snd_of hc (fun c g h => by rw [hs]; exact hv c g h) fun c g h => by rw [hs]; exact truth_of c (pl _ _ h) (hv c g h)

theorem of_good {f : Kc → Expr → Bool} {E : Expr} (h : (Ck.of f).e kc E = true) : goodE E = true := by
  have h' : (goodE E && f kc E) = true := h
  rw [Bool.and_eq_true] at h'
  exact h'.1
theorem ck_good {e : Ex} (h : (ck e).e kc E = true) : goodE E = true := by
  cases e with
  | bop k a b =>
    cases E <;> first | rfl | exact Bool.noConfusion h
  | _ => exact of_good h

/-! ### the nodes -/
theorem snd_v (i : Nat) : Snd w (.v i) := by
  refine snd_plain rfl (fun _ => rfl) (fun kc E h => by cases E <;> first | rfl | cases h) fun {kc k X W E} c g h => ?_
  cases E <;> try (cases h; done)
  intro pv σa σ H G F Q st p
  refine ofPE (var_of c h) ?_
  dsimp only at p
  split at p
  · rename_i x e
    obtain ⟨v, e1, r⟩ := st.slot i _ e
    exact ⟨v, e1, p.here st v r⟩
  · exact p.elim
theorem snd_fz (i : Nat) : Snd w (.fz i) := by
  refine snd_plain rfl (fun _ => rfl) (fun kc E h => by cases E <;> first | rfl | cases h) fun {kc k X W E} c g h => ?_
  cases E <;> try (cases h; done)
  intro pv σa σ H G F Q st p
  refine ofPE (var_of c h) ?_
  dsimp only at p
  split at p
  · rename_i x e
    obtain ⟨v, e1, r⟩ := st.slot i _ e
    exact ⟨v, e1, p.here st v r⟩
  · rename_i x e
    obtain ⟨v, e1, G1, r, st1, stp⟩ := st.freeze e
    exact ⟨v, e1, p _ _ _ stp st1 v r⟩
  · exact p.elim
theorem snd_int (i : Int) : Snd w (.int i) := by
  refine snd_plain rfl (fun _ => rfl) (fun kc E h => by cases E <;> first | rfl | cases h) fun {kc k X W E} c g h => ?_
  split at h
  · intro pv σa σ H G F Q st p
    rw [of_decide_eq_true h] at p
    exact ofPE pe_int (p.here st _ (.int _))
  · cases h
theorem snd_str (i : Str) : Snd w (.str i) := by
  refine snd_plain rfl (fun _ => rfl) (fun kc E h => by cases E <;> first | rfl | cases h) fun {kc k X W E} c g h => ?_
  split at h
  · intro pv σa σ H G F Q st p
    rw [of_decide_eq_true h] at p
    exact ofPE pe_str (p.here st _ (.str _))
  · cases h
theorem snd_bl (i : Bool) : Snd w (.bl i) := by
  refine snd_plain rfl (fun _ => rfl) (fun kc E h => by cases E <;> first | rfl | cases h) fun {kc k X W E} c g h => ?_
  split at h
  · intro pv σa σ H G F Q st p
    rw [eq_of_beq h] at p
    exact ofPE pe_bl (p.here st _ (.bl _))
  · cases h
theorem snd_non : Snd w .non := by
  refine snd_plain rfl (fun _ => rfl) (fun kc E h => by cases E <;> first | rfl | cases h) fun {kc k X W E} c g h => ?_
  split at h
  · intro pv σa σ H G F Q st p
    exact ofPE pe_non (p.here st _ .non)
  · cases h
theorem snd_con (x : Str) : Snd w (.con x) := by
  refine snd_plain rfl (fun _ => rfl) (fun kc E h => by cases E <;> first | rfl | cases h) fun {kc k X W E} c g h => ?_
  split at h
  · rw [Bool.and_eq_true] at h
    obtain ⟨h1, h2⟩ := h
    have e := of_decide_eq_true h1
    subst e
    obtain ⟨gx, ok⟩ := gl_of c h2
    intro pv σa σ H G F Q st p
    obtain ⟨d, e, p⟩ := p.ofO
    obtain ⟨u, v, m, r, q⟩ := c.mgs.con x d e
    exact ofPE (pe_glob gx m r (okN_d ok).1) (p.here st v (q G))
  · cases h
theorem snd_neg {a : Ex} (ha : Snd w a) : Snd w (.neg a) := by
  refine snd_plain rfl (fun _ => rfl) (fun kc E h => ?_) fun {kc k X W E} c g h => ?_
  · split at h
    · rfl
    · cases h
  split at h
  · intro pv σa σ H G F Q st p
    refine ofPE (pe_un un_neg peW) (ha.v c h pv σa σ H G F _ st (Post.then p fun q H' G' F' _ _ z st' v r => ?_))
    split at z
    · rename_i i e
      rw [e] at r
      exact ⟨i, r.int_inv, z.here st' _ (.int _)⟩
    · exact z.elim
  · cases h
theorem snd_bin (o : BOp) {a b : Ex} (ha : Snd w a) (hb : Snd w b) : Snd w (.bin o a b) := by
  refine snd_plain rfl (fun _ => rfl) (fun kc E h => by cases E <;> first | rfl | cases h) fun {kc k X W E} c g h => ?_
  cases E <;> try (cases h; done)
  simp only [Bool.and_eq_true] at h
  obtain ⟨h0, h1, h2⟩ := h
  have e0 := opBB_eq h0
  subst e0
  intro pv σa σ H G F Q st p
  -- the operation is chosen by what is worked out
  intro pins s I
  refine wpAny_BinOp ?_
  refine thn (ha.v c h1 pv σa σ H G F (fun x H1 => WpE X _ σ H1 fun y H2 => ∀ pins s u t, Inv X pins σ H2 s → RelV x u → RelV y t → wpAny (model X.prog X.w) X.A (binaryOp (opB o) u t) (EP X pins σ Q) X.xe s) st
    (Post.then p fun q H1 G1 F1 _ _ z st1 x rx => hb.v c h2 pv _ σ H1 G1 F1 _ st1 (Post.then z fun q2 H2 G2 F2 _ s2 z2 st2 y ry => ?_)) pins s I) fun u s1 ⟨x, H1, I1, rx, q1⟩ => thn (q1 pins s1 I1) fun t s2 ⟨y, H2, I2, ry, q2⟩ => q2 pins s2 u t I2 rx ry
  obtain ⟨d, e, z3⟩ := z2.ofO
  obtain ⟨r, ro, rf⟩ := bin_ok (w := w) c.hK e
  intro pins s u t I ru rt
  exact ro pins s σ H2 x y u t Q I ru rt (rf st2 (rx.mono s2.gle) ry fun v H' G' st' step rv => z3 _ _ _ step st' v rv)

/-! ### any rule of a kind, chosen by the values -/
def anyOp (X : Cx) (f : Value → Value → Sem Value) : R2 := fun x y H Q => ∃ r, OpR X f r ∧ r x y H Q
theorem anyOp_ok {f : Value → Value → Sem Value} : OpR X f (anyOp X f) := fun pn st sg hp x y u t Q iv rx ry ⟨r, ro, h⟩ => ro pn st sg hp x y u t Q iv rx ry h
def anyIx (X : Cx) : R2 := fun x y H Q => ∃ r, IxR X r ∧ r x y H Q
theorem anyIx_ok : IxR X (anyIx X) := fun a b pn st sg hp x y u t Q iv rx ry ⟨r, ro, h⟩ e => ro a b pn st sg hp x y u t Q iv rx ry h e
def anySl (X : Cx) : V → Option Int → Option Int → Hp → VK → Prop := fun x lo hi H Q => ∃ r, SlR X r ∧ r x lo hi H Q
theorem anySl_ok : SlR X (anySl X) := fun pn st sg hp x v vl vu lo hi sl Q iv rx hs pl pu ⟨r, ro, h⟩ => ro pn st sg hp x v vl vu lo hi sl Q iv rx hs pl pu h
def anyCall (X : Cx) (f : Value) : List V → Hp → VK → Prop := fun xs H Q => ∃ r, CallR X f r ∧ r xs H Q
theorem anyCall_ok {f : Value} : CallR X f (anyCall X f) := fun pn st sg hp xs us Q iv rs ⟨r, ro, h⟩ => ro pn st sg hp xs us Q iv rs h

theorem snd_cmp (o : COp) {a b : Ex} (ha : Snd w a) (hb : Snd w b) : Snd w (.cmp o a b) := by
  have core : ∀ {kc : Kc} {k : Nat} {X : Cx} {W : WX} {A B : Expr}, Cok w kc k X W → (ck a).e kc A = true → (ck b).e kc B = true → ∀ (pv : V) (σa : En) (σ : L2.St) (H G : Hp) (F : Fp) (Q : VK), StOk w pv σa σ H G F →
      Post w H G F ((sm w.P.C (callF w.P k) (.cmp o a b)).v σa) (fun p H' G' F' => StOk w pv p.2 σ H' G' F' → ∀ z, p.1 = .bool z → Q (.bl z) H') (KX w W σ) →
      tOp (anyOp X (compareOp (opC o))) (WpE X A) (WpE X B) σ H Q := by
    intro kc k X W A B c h1 h2 pv σa σ H G F Q st p
    refine ha.v c h1 pv σa σ H G F _ st (Post.then p fun q H1 G1 F1 _ _ z st1 x rx => hb.v c h2 pv _ σ H1 G1 F1 _ st1 (Post.then z fun q2 H2 G2 F2 _ s2 z2 st2 y ry => ?_))
    obtain ⟨d, e, z3⟩ := z2.ofO
    have hu : X.A.units + 65 < cLine := by have := c.room.un; omega
    obtain ⟨r, ro, rf⟩ := cmp_ok (w := w) c.hK hu e
    refine ⟨r, ro, rf st2 (rx.mono s2.gle) ry fun v H' G' st' step rv => ?_⟩
    rw [rv.bl_inv]
    exact z3 _ _ _ step st' d rfl
  have tail : ∀ {k : Nat} {σa : En} {p : D × En}, (sm w.P.C (callF w.P k) (.cmp o a b)).v σa = .ok p → ∃ z, p.1 = .bool z := by
    intro k σa p e
    obtain ⟨q, _, e⟩ := bind_ok (show ((sm w.P.C (callF w.P k) a).v σa).bind _ = _ from e)
    obtain ⟨q2, _, e⟩ := bind_ok e
    obtain ⟨z, _, e⟩ := bind_ok e
    cases e
    exact ⟨z, rfl⟩
  refine snd_of rfl (fun {kc k X W E} c g h => ?_) (fun {kc k X W E} c g h => ?_)
  · split at h
    · simp only [Bool.and_eq_true] at h
      obtain ⟨h0, h1, h2⟩ := h
      have e0 := opCB_eq h0
      subst e0
      intro pv σa σ H G F Q st p
      have gB := ck_good h2
      exact ofPE (pe_cmpR anyOp_ok peW peW (good_mark gB)) (core c h1 h2 pv σa σ H G F Q st (p.imp (fun q H' G' F' _ _ z st' d e => z st' _ (by rw [e]; exact .bl d)) fun _ _ z => z))
    · cases h
  · split at h
    · simp only [Bool.and_eq_true] at h
      obtain ⟨h0, h1, h2⟩ := h
      have e0 := opCB_eq h0
      subst e0
      intro pv σa σ H G F Q st p
      have gB := ck_good h2
      refine ofPT (pt_cmpR anyOp_ok peW peW (good_mark gB)) (core c h1 h2 pv σa σ H G F _ st (Post.then p fun q H' G' F' _ _ z st' d e => ?_))
      refine ⟨d, rfl, ?_⟩
      rw [e] at z
      exact z.here st'
    · cases h
end
end N
/-! N7: more nodes: and, or, not, slices, displays, calls. -/
namespace N
open PySem PySem.Spec PyProof.Rows L2
section
variable {w : Wd} {kc : Kc} {k : Nat} {X : Cx} {W : WX} {pv : V} {σa : En} {σ : L2.St} {H G H1 G1 : Hp} {F F1 : Fp} {E A B I T : Expr}
theorem snd_chain (o1 o2 : COp) {a b d : Ex} (ha : Snd w a) (hb : Snd w b) (hd : Snd w d) : Snd w (.chain o1 o2 a b d) := by
  have core : ∀ {kc : Kc} {k : Nat} {X : Cx} {W : WX} {A B C : Expr}, Cok w kc k X W → (ck a).e kc A = true → (ck b).e kc B = true → (ck d).e kc C = true → ∀ (pv : V) (σa : En) (σ : L2.St) (H G : Hp) (F : Fp) (Q : VK), StOk w pv σa σ H G F →
      Post w H G F ((sm w.P.C (callF w.P k) (.chain o1 o2 a b d)).v σa) (fun p H' G' F' => StOk w pv p.2 σ H' G' F' → ∀ z, p.1 = .bool z → Q (.bl z) H') (KX w W σ) →
      tChain (anyOp X (compareOp (opC o1))) (anyOp X (compareOp (opC o2))) (WpE X A) (WpE X B) (WpE X C) σ H Q := by
    intro kc k X W A B C c h1 h2 h3 pv σa σ H G F Q st p
    refine ha.v c h1 pv σa σ H G F _ st (Post.then p fun q H1 G1 F1 _ _ z st1 x rx => hb.v c h2 pv _ σ H1 G1 F1 _ st1 (Post.then z fun q2 H2 G2 F2 _ s2 z2 st2 y ry => ?_))
    obtain ⟨e1, e, z3⟩ := z2.ofO
    have hu : X.A.units + 65 < cLine := by have := c.room.un; omega
    obtain ⟨r, ro, rf⟩ := cmp_ok (w := w) c.hK hu e
    refine ⟨r, ro, rf st2 (rx.mono s2.gle) ry fun v H' G' st' step rv => ?_⟩
    rw [rv.bl_inv]
    refine ⟨e1, rfl, ?_⟩
    have z4 := z3.step step
    cases e1 with
    | false =>
      rw [if_neg Bool.false_ne_true]
      exact z4.here st' false rfl
    | true =>
      rw [if_pos rfl]
      refine hd.v c h3 pv _ σ H' G' F2 _ st' (Post.then z4 fun q3 H3 G3 F3 _ s3 z5 st3 u ru => ?_)
      obtain ⟨e2, e, z6⟩ := z5.ofO
      obtain ⟨r, ro, rf⟩ := cmp_ok (w := w) c.hK hu e
      refine ⟨r, ro, rf st3 ((ry.mono step.gle).mono s3.gle) ru fun v H4 G4 st4 step4 rv => ?_⟩
      rw [rv.bl_inv]
      exact z6 _ _ _ step4 st4 e2 rfl
  refine snd_of rfl (fun {kc k X W E} c g h => ?_) (fun {kc k X W E} c g h => ?_)
  · split at h
    · simp only [Bool.and_eq_true] at h
      obtain ⟨⟨h0, h0'⟩, h1, h2, h3⟩ := h
      have e0 := opCB_eq h0
      subst e0
      have e0 := opCB_eq h0'
      subst e0
      have gC := ck_good h3
      intro pv σa σ H G F Q st p
      exact ofPE (pe_chain anyOp_ok anyOp_ok peW peW peW (good_mark gC)) (core c h1 h2 h3 pv σa σ H G F Q st (p.imp (fun q H' G' F' _ _ z st' d e => z st' _ (by rw [e]; exact .bl d)) fun _ _ z => z))
    · cases h
  · split at h
    · simp only [Bool.and_eq_true] at h
      obtain ⟨⟨h0, h0'⟩, h1, h2, h3⟩ := h
      have e0 := opCB_eq h0
      subst e0
      have e0 := opCB_eq h0'
      subst e0
      have gC := ck_good h3
      intro pv σa σ H G F Q st p
      refine ofPT (pt_chain anyOp_ok anyOp_ok peW peW peW (good_mark gC)) (core c h1 h2 h3 pv σa σ H G F _ st (Post.then p fun q H' G' F' _ _ z st' d e => ?_))
      refine ⟨d, rfl, ?_⟩
      rw [e] at z
      exact z.here st'
    · cases h
theorem bop_core {a b : Ex} (kb : Bool) (ha : Snd w a) (hb : Snd w b) (c : Cok w kc k X W) {A B : Expr} {r : List Expr} {pos : Pos} (h1 : (ck a).e kc A = true) (h2 : (ck b).b kc kb (B :: r) = true) :
    SE w X W (.BoolOp (opK kb) (A :: B :: r) pos) (sm w.P.C (callF w.P k) (.bop kb a b)).v ∧ SW w X W (.BoolOp (opK kb) (A :: B :: r) pos) (sm w.P.C (callF w.P k) (.bop kb a b)).t := by
  obtain ⟨b1, b2⟩ := hb.b c h2 pos
  constructor
  · intro pv σa σ H G F Q st p
    cases kb with
    | true =>
      refine ofPE (pe_andT peW peW) (ha.v c h1 pv σa σ H G F _ st (Post.then p fun q H1 G1 F1 _ _ z st1 x rx => ?_))
      obtain ⟨t, e, z⟩ := z.ofO
      refine ⟨t, tru_of (w := w) (H' := H1) c.hK e st1 rx (fun kvs y => by rw [y] at e; cases e), ?_⟩
      cases t with
      | true => rw [if_pos rfl] at z ⊢; exact b1 pv _ σ H1 G1 F1 Q st1 z
      | false => rw [if_neg Bool.false_ne_true] at z ⊢; exact z.here st1 x rx
    | false =>
      refine ofPE (pe_orT peW peW) (ha.v c h1 pv σa σ H G F _ st (Post.then p fun q H1 G1 F1 _ _ z st1 x rx => ?_))
      obtain ⟨t, e, z⟩ := z.ofO
      refine ⟨t, tru_of (w := w) (H' := H1) c.hK e st1 rx (fun kvs y => by rw [y] at e; cases e), ?_⟩
      cases t with
      | true => rw [if_pos rfl]; rw [if_neg (by decide)] at z; exact z.here st1 x rx
      | false => rw [if_neg Bool.false_ne_true]; rw [if_pos rfl] at z; exact b1 pv _ σ H1 G1 F1 Q st1 z
  · intro pv σa σ H G F Q st p
    cases kb with
    | true =>
      refine ofPW (pw_and ptW pwW) (ha.t c h1 pv σa σ H G F _ st (Post.then p fun q H1 G1 F1 _ _ z st1 => ?_))
      cases hq : q.1 with
      | true => rw [if_pos rfl]; rw [hq, if_pos rfl] at z; exact b2 pv _ σ H1 G1 F1 Q st1 z
      | false => rw [if_neg Bool.false_ne_true]; rw [hq, if_neg Bool.false_ne_true] at z; have := z.here st1; rwa [hq] at this
    | false =>
      refine ofPW (pw_or ptW pwW) (ha.t c h1 pv σa σ H G F _ st (Post.then p fun q H1 G1 F1 _ _ z st1 => ?_))
      cases hq : q.1 with
      | true => rw [if_pos rfl]; rw [hq, if_neg (by decide)] at z; have := z.here st1; rwa [hq] at this
      | false => rw [if_neg Bool.false_ne_true]; rw [hq, if_pos rfl] at z; exact b2 pv _ σ H1 G1 F1 Q st1 z
theorem bopB_eq {kb : Bool} {o : BoolOp} (h : bopB kb o = true) : o = opK kb := by
  cases kb <;> cases o <;> first | rfl | exact Bool.noConfusion h
theorem SW.t {f : En → Res (Bool × En)} (h : SW w X W E f) : STe w X W E f := fun pv σa σ H G F Q st p pins s I => h pv σa σ H G F Q st p _ pins s I
theorem snd_bop (kb : Bool) {a b : Ex} (ha : Snd w a) (hb : Snd w b) : Snd w (.bop kb a b) := by
  have one : ∀ {kc : Kc} {E : Expr}, (ck (.bop kb a b)).e kc E = true → ∃ A B r pos, E = .BoolOp (opK kb) (A :: B :: r) pos ∧ (ck a).e kc A = true ∧ (ck b).b kc kb (B :: r) = true := by
    intro kc E h
    cases E <;> try exact Bool.noConfusion h
    rename_i o Es pos
    cases Es with
    | nil => exact Bool.noConfusion h
    | cons A r =>
      cases r with
      | nil => exact Bool.noConfusion h
      | cons B r =>
        have h' : (bopB kb o && ((ck a).e kc A && (ck b).b kc kb (B :: r))) = true := h
        simp only [Bool.and_eq_true] at h'
        exact ⟨A, B, r, pos, by rw [bopB_eq h'.1], h'.2.1, h'.2.2⟩
  refine ⟨fun {kc k X W E} c h => ?_, fun {kc k X W E} c h => ?_, fun {kc k X W kb' Es} c h pos => ?_⟩
  · obtain ⟨A, B, r, pos, rfl, h1, h2⟩ := one h
    exact (bop_core kb ha hb c h1 h2).1
  · obtain ⟨A, B, r, pos, rfl, h1, h2⟩ := one h
    exact (bop_core kb ha hb c h1 h2).2.t
  · cases Es with
    | nil => exact Bool.noConfusion h
    | cons A r =>
      cases r with
      | nil =>
        have h' : (ck (.bop kb a b)).e kc A = true := h
        obtain ⟨A, B, r, pos', rfl, h1, h2⟩ := one h'
        obtain ⟨b1, b2⟩ := bop_core (pos := pos') kb ha hb c h1 h2
        refine ⟨fun pv σa σ H G F Q st p => ofPE (pe_one peW) (b1 pv σa σ H G F Q st p), fun pv σa σ H G F Q st p => ?_⟩
        cases kb' with
        | true => exact ofPW (pw_and1 ptW) (b2.t pv σa σ H G F Q st p)
        | false => exact ofPW (pw_or1 ptW) (b2.t pv σa σ H G F Q st p)
      | cons B r =>
        have h' : ((kb' == kb) && ((ck a).e kc A && (ck b).b kc kb (B :: r))) = true := h
        simp only [Bool.and_eq_true] at h'
        have e := eq_of_beq h'.1
        subst e
        exact bop_core kb' ha hb c h'.2.1 h'.2.2
theorem snd_not {a : Ex} (ha : Snd w a) : Snd w (.not a) := by
  refine snd_of rfl (fun {kc k X W E} c g h => ?_) (fun {kc k X W E} c g h => ?_)
  · split at h
    · intro pv σa σ H G F Q st p
      refine ofPE (pe_notT peW) (ha.v c h pv σa σ H G F _ st (Post.then p fun q H1 G1 F1 _ _ z st1 x rx => ?_))
      obtain ⟨t, e, z⟩ := z.ofO
      exact ⟨t, tru_of (w := w) (H' := H1) c.hK e st1 rx (fun kvs y => by rw [y] at e; cases e), z.here st1 _ (.bl _)⟩
    · cases h
  · split at h
    · intro pv σa σ H G F Q st p
      exact ofPT (pt_not ptW) (ha.t c h pv σa σ H G F _ st (Post.then p fun q H1 G1 F1 _ _ z st1 => z.here st1))
    · cases h
theorem ptIte {C A B : Expr} {pos : Pos} {tc ta tb : TT} (hc : PT X C tc) (ha : PT X A ta) (hb : PT X B tb) : PT X (.IfExp C A B pos) (fun σ H Q => tc σ H fun b H1 => if b = true then ta σ H1 Q else tb σ H1 Q) := by
  refine ⟨fun pn st sg hp Q iv h => ?_⟩
  rw [arm_isTrue_IfExp]
  refine wpAny_bind (thn (hc.run pn st sg hp _ iv h) fun b s1 ⟨H1, I1, q1⟩ => ?_)
  cases b with
  | true => rw [if_pos rfl]; rw [if_pos rfl] at q1; exact ha.run pn s1 sg H1 Q I1 q1
  | false => rw [if_neg Bool.false_ne_true]; rw [if_neg Bool.false_ne_true] at q1; exact hb.run pn s1 sg H1 Q I1 q1
theorem snd_ite {c a b : Ex} (hc : Snd w c) (ha : Snd w a) (hb : Snd w b) : Snd w (.ite c a b) := by
  refine snd_of rfl (fun {kc k X W E} cc g h => ?_) (fun {kc k X W E} cc g h => ?_)
  · split at h
    · simp only [Bool.and_eq_true] at h
      intro pv σa σ H G F Q st p
      refine ofPE (pe_ifExp ptW peW peW) (hc.t cc h.1 pv σa σ H G F _ st (Post.then p fun q H1 G1 F1 _ _ z st1 => ?_))
      cases hq : q.1 with
      | true => rw [if_pos rfl]; rw [hq] at z; exact ha.v cc h.2.1 pv _ σ H1 G1 F1 Q st1 z
      | false => rw [if_neg Bool.false_ne_true]; rw [hq] at z; exact hb.v cc h.2.2 pv _ σ H1 G1 F1 Q st1 z
    · cases h
  · split at h
    · simp only [Bool.and_eq_true] at h
      intro pv σa σ H G F Q st p
      refine ofPT (ptIte ptW ptW ptW) (hc.t cc h.1 pv σa σ H G F _ st (Post.then p fun q H1 G1 F1 _ _ z st1 => ?_))
      cases hq : q.1 with
      | true => rw [if_pos rfl]; rw [hq] at z; exact ha.t cc h.2.1 pv _ σ H1 G1 F1 Q st1 z
      | false => rw [if_neg Bool.false_ne_true]; rw [hq] at z; exact hb.t cc h.2.2 pv _ σ H1 G1 F1 Q st1 z
    · cases h
theorem snd_ix {a i : Ex} (ha : Snd w a) (hi : Snd w i) : Snd w (.ix a i) := by
  refine snd_plain rfl (fun _ => rfl) (fun kc E h => by cases E <;> first | rfl | cases h) fun {kc k X W E} c g h => ?_
  split at h
  · simp only [Bool.and_eq_true] at h
    intro pv σa σ H G F Q st p
    refine ofPE (pe_ix anyIx_ok peW peW (good_ix (ck_good h.2))) (ha.v c h.1 pv σa σ H G F _ st (Post.then p fun q H1 G1 F1 _ _ z st1 x rx => hi.v c h.2 pv _ σ H1 G1 F1 _ st1 (Post.then z fun q2 H2 G2 F2 _ s2 z2 st2 y ry => ?_)))
    obtain ⟨d, e, z3⟩ := z2.ofO
    obtain ⟨r, ro, rf⟩ := idx_ok (w := w) c.hK e
    exact ⟨r, ro, rf st2 (rx.mono s2.gle) ry fun v H' G' st' step rv => z3 _ _ _ step st' v rv⟩
  · cases h
/-- a slice's bound -/
def SndO (w : Wd) (e : OEx) : Prop := ∀ {kc k X W E}, Cok w kc k X W → ckO e kc E = true → ∃ t, PO X E t ∧ ∀ (pv : V) (σa : En) (σ : L2.St) (H G : Hp) (F : Fp) (Q : Option Int → Hp → Prop), StOk w pv σa σ H G F →
  Post w H G F (smO w.P.C (callF w.P k) e σa) (fun p H' G' F' => StOk w pv p.2 σ H' G' F' → Q p.1 H') (KX w W σ) → t σ H Q
theorem sndO_no : SndO w .no := by
  intro kc k X W E c h
  cases E with
  | none => exact ⟨_, po_none, fun pv σa σ H G F Q st p => p.here st⟩
  | some E => exact Bool.noConfusion h
theorem sndO_so {e : Ex} (he : Snd w e) : SndO w (.so e) := by
  intro kc k X W E c h
  cases E with
  | none => exact Bool.noConfusion h
  | some E =>
    have h' : (ck e).e kc E = true := h
    refine ⟨_, po_some peW, fun pv σa σ H G F Q st p => he.v c h' pv σa σ H G F _ st (Post.then p fun q H1 G1 F1 _ _ z st1 x rx => ?_)⟩
    split at z
    · rename_i i e1
      rw [e1] at rx
      exact ⟨i, rx.int_inv, z.here st1⟩
    · exact z.elim
theorem snd_sl {a : Ex} {lo hi : OEx} (ha : Snd w a) (hl : SndO w lo) (hh : SndO w hi) : Snd w (.sl a lo hi) := by
  refine snd_plain rfl (fun _ => rfl) (fun kc E h => by cases E <;> first | rfl | cases h) fun {kc k X W E} c g h => ?_
  split at h
  · simp only [Bool.and_eq_true] at h
    obtain ⟨tl, pl, fl⟩ := hl c h.2.1
    obtain ⟨th, ph, fh⟩ := hh c h.2.2
    intro pv σa σ H G F Q st p
    refine ofPE (pe_slice anySl_ok peW pl ph) (ha.v c h.1 pv σa σ H G F _ st (Post.then p fun q H1 G1 F1 _ _ z st1 x rx => fl pv _ σ H1 G1 F1 _ st1 (Post.then z fun q2 H2 G2 F2 _ s2 z2 st2 => fh pv _ σ H2 G2 F2 _ st2 (Post.then z2 fun q3 H3 G3 F3 _ s3 z3 st3 => ?_))))
    obtain ⟨d, e, z4⟩ := z3.ofO
    obtain ⟨r, ro, rf⟩ := slc_ok (w := w) c.hK e
    exact ⟨r, ro, rf st3 ((rx.mono s2.gle).mono s3.gle) fun v H' G' st' step rv => z4 _ _ _ step st' v rv⟩
  · cases h
/-- lists of expressions -/
def SndL (w : Wd) (es : List Ex) : Prop := ∀ {kc k X W Es}, Cok w kc k X W → cks es kc Es = true → SA w X W Es (sms w.P.C (callF w.P k) es)
theorem sndL_nil : SndL w [] := by
  intro kc k X W Es c h
  cases Es with
  | nil => exact fun pv σa σ H G F Q st p => ofPA pa_nil (p.here st [] .nil)
  | cons E Es => exact Bool.noConfusion h
theorem sndL_cons {e : Ex} {es : List Ex} (he : Snd w e) (hs : SndL w es) : SndL w (e :: es) := by
  intro kc k X W Es c h
  cases Es with
  | nil => exact Bool.noConfusion h
  | cons E Es =>
    have h' : ((ck e).e kc E && cks es kc Es) = true := h
    rw [Bool.and_eq_true] at h'
    intro pv σa σ H G F Q st p
    refine ofPA (pa_cons peW paW (good_star (ck_good h'.1))) (he.v c h'.1 pv σa σ H G F _ st (Post.then p fun q H1 G1 F1 _ _ z st1 x rx => hs c h'.2 pv _ σ H1 G1 F1 _ st1 (Post.then z fun q2 H2 G2 F2 _ s2 z2 st2 xs rs => ?_)))
    exact z2.here st2 _ (.cons (rx.mono s2.gle) rs)
theorem snd_tup {es : List Ex} (hs : SndL w es) : Snd w (.tup es) := by
  have hL : LINE = sizeLine := line_eq
  refine snd_plain rfl (fun _ => rfl) (fun kc E h => by cases E <;> first | rfl | cases h) fun {kc k X W E} c g h => ?_
  split at h
  · intro pv σa σ H G F Q st p
    refine ofPE (pe_tup paW) (hs c h pv σa σ H G F _ st (Post.then p fun q H1 G1 F1 _ _ z st1 xs rs => ?_))
    split at z
    · rename_i hl
      refine ⟨by rw [rs.length, ← hL]; exact hl, fun a ha => ?_⟩
      obtain ⟨s2, st2⟩ := st1.alloc ha (.tup xs)
      exact z _ _ _ st2 s2 _ (rpTup (st1.newNe ha).2.1 rs)
    · exact z.elim
  · cases h
theorem snd_lst {es : List Ex} (hs : SndL w es) : Snd w (.lst es) := by
  have hL : LINE = sizeLine := line_eq
  refine snd_plain rfl (fun _ => rfl) (fun kc E h => by cases E <;> first | rfl | cases h) fun {kc k X W E} c g h => ?_
  split at h
  · intro pv σa σ H G F Q st p
    refine ofPE (pe_lst paW) (hs c h pv σa σ H G F _ st (Post.then p fun q H1 G1 F1 _ _ z st1 xs rs => ?_))
    split at z
    · rename_i hl
      refine ⟨by rw [rs.length, ← hL]; exact hl, fun a ha => ?_⟩
      obtain ⟨s2, st2⟩ := st1.alloc ha (.lst xs)
      exact z _ _ _ st2 s2 _ (rpLst (st1.newNe ha).2.1 rs)
    · exact z.elim
  · cases h
end
end N
/-! N8: calls of defs, of built-ins, methods; reads of owned things. -/
namespace N
open PySem PySem.Spec PyProof.Rows L2
section
variable {w : Wd} {kc : Kc} {k : Nat} {X : Cx} {W : WX} {pv : V} {σa : En} {σ : L2.St} {H G H1 G1 : Hp} {F F1 : Fp} {E A B I T : Expr}
theorem cks_good : ∀ {es : List Ex} {Es : List Expr}, cks es kc Es = true → Es.all goodE = true ∧ Es.length = es.length
  | [], Es, h => by
    cases Es with
    | nil => exact ⟨rfl, rfl⟩
    | cons E Es => exact Bool.noConfusion h
  | e :: es, Es, h => by
    cases Es with
    | nil => exact Bool.noConfusion h
    | cons E Es =>
      have h' : ((ck e).e kc E && cks es kc Es) = true := h
      rw [Bool.and_eq_true] at h'
      obtain ⟨i1, i2⟩ := cks_good h'.2
      exact ⟨by rw [List.all_cons, ck_good h'.1, i1]; rfl, by rw [List.length_cons, List.length_cons, i2]⟩
theorem star_none {env : PySem.Env} {pos : Pos} : ∀ {Es : List Expr}, Es.all goodE = true → (backTo pos (starEach Es env)).any (·.1) = false
  | [], _ => rfl
  | E :: Es, h => by
    rw [List.all_cons, Bool.and_eq_true] at h
    rw [good_star h.1]
    have ih := star_none (env := env) (pos := pos) h.2
    show (false || (backTo pos (starEach Es env)).any (·.1)) = false
    rw [ih]; rfl
theorem fn_ok (c : Cok w kc k X W) {f : Nat} {x : Str} {n : Nat} {own : Bool} (h : kc.fn f x n own = true) : ∃ Fd, w.P.fns[f]? = some Fd ∧ Fd.name = x ∧ Fd.np = n := by
  unfold Kc.fn at h
  rw [c.hP] at h
  cases e : w.P.fns[f]? with
  | none => rw [e] at h; cases h
  | some Fd =>
    rw [e] at h
    simp only [Bool.and_eq_true, decide_eq_true_eq] at h
    exact ⟨Fd, rfl, h.1, h.2.1⟩
/-- a call of no argument, at any slots -/
theorem pe_callS0 {CX : CXT} {kk : Nat} {f : Addr} {fd : FuncData} {ps : List Str} {sp : Sp} {W' : L2.St → XK} {x : Str} {p pos : Pos} (Fo : FnOk X.prog X.w X.K X.mg X.base CX kk f fd ps sp) (hr : Room kk X.A) (hg : Gl X x) (hm : X.mg x = some (.ref f))
    (hk : PySem.W.keepIn X.K (.ref f) = true) (hb : Binds X.K fd ps []) (hx : ∀ σ, PassesAt CX X σ (W' σ)) (hdb : (x == ("__debug__" : Str)) = false) : PE X (.Call (.Name x p) [] [] pos) (tCallS sp W' tNil) := by
  refine ⟨fun pn st sg hp Q iv h => ?_⟩
  refine wpAny_Call_Name_kw (ld_glob iv hg hm ?_ hdb)
  exact PySem.W.callWith_K0 iv.kIn hk (run_fnS (us := []) Fo hr hb (hx sg) iv .nil h)
theorem sms_length {C : List (Str × D)} {fn : Fns} : ∀ {es : List Ex} {σa : En} {p : List D × En}, sms C fn es σa = .ok p → p.1.length = es.length
  | [], _, _, h => by cases h; rfl
  | e :: es, σa, p, h => by
    obtain ⟨a, _, h⟩ := bind_ok (show ((sm C fn e).v σa).bind _ = _ from h)
    obtain ⟨b, e2, h⟩ := bind_ok h
    cases h
    rw [List.length_cons, List.length_cons, sms_length e2]
/-- the state behind a call: the caller's own things stand -/
theorem StOk.after (st : StOk w pv σa σ H G F) {Fc : Fp} (hF : ∀ i a, a ∈ Fc i → False) (s : Step w H G Fc H1 G1 F1) (sub : Le G1 H1) (tab : ∀ p ∈ w.tabs, GxR.TabG H1 p.2 ∧ G1 p.2 = none) : StOk w pv σa σ H1 G1 F ∧ Step w H G F H1 G1 F := by
  have kp : ∀ i, ∀ a ∈ F i, H1 a = H a ∧ G1 a = none := fun i a m => by
    obtain ⟨o, e, mu⟩ := st.there i a m
    have q := s.keep a o e (fun j z => hF j a z) (st.tabNe e fun q z => by rw [z] at mu; exact mu)
    exact ⟨q.1.trans e.symm, q.2 (st.free i a m)⟩
  refine ⟨⟨st.len, sub, fun i x e => (st.slot i x e).mono s.gle fun a m => (kp i a m).1, st.disj, fun i a m => (kp i a m).2, fun i a m => ?_, tab⟩, ⟨s.gle, fun a o e n t => s.keep a o e (fun j z => hF j a z) t, fun i a m => .inl ⟨i, m⟩, s.tabk⟩⟩
  obtain ⟨o, e, mu⟩ := st.there i a m
  exact ⟨o, (kp i a m).1.trans e, mu⟩
theorem argsD {pv' : V} (st : StOk w pv σa σ H G F) {vs : List V} {ds : List D} (r : RpAll w.K G vs ds) : StOk w pv' ((ds.map AV.d).map slotA) (vs.map some) H G (fun _ => []) := by
  refine ⟨by simp [r.length], st.sub, fun i x e => ?_, fun _ _ _ _ m => absurd m (by simp), fun _ _ m => absurd m (by simp), fun _ _ m => absurd m (by simp), st.tab⟩
  rw [List.map_map, List.getElem?_map] at e
  cases q : ds[i]? with
  | none => rw [q] at e; cases e
  | some d =>
    rw [q] at e
    cases e
    obtain ⟨v, e1, r1⟩ := r.get' q
    exact ⟨v, by rw [List.getElem?_map, e1]; rfl, r1⟩
theorem snd_call (f : Nat) {es : List Ex} (hs : SndL w es) : Snd w (.call f es) := by
  refine snd_plain rfl (fun _ => rfl) (fun kc E h => by cases E <;> first | rfl | cases h) fun {kc k X W E} c g h => ?_
  split at h
  · rename_i x p Es pos
    simp only [Bool.and_eq_true] at h
    obtain ⟨⟨h1, h2⟩, h3⟩ := h
    obtain ⟨gx, ok⟩ := gl_of c h1
    obtain ⟨Fd, e1, e2, e3⟩ := fn_ok c h2
    obtain ⟨fa, fd, m1, m2, m3, m4⟩ := c.fns f Fd e1
    rw [e2] at m1
    rw [← c.hK] at m2 m3 m4
    intro pv σa σ H G F Q st pp
    have use : ∀ {H1 G1 F1 ds vs σ1}, StOk w pv σ1 σ H1 G1 F1 → RpAll w.K G1 vs ds → ds.length = es.length → Post w H1 G1 F1 ((callF w.P k f (ds.map .d)).bind fun r => (ofO (datO r.1)).bind fun z => .ok (z, σ1)) (KE w pv σ Q) (KX w W σ) → SpF w Fd.np (callF w.P k f) vs H1 Q (WE W σ) := by
      intro H1 G1 F1 ds vs σ1 st1 rs hl z
      refine ⟨by rw [rs.length, hl, e3], .non, ds.map .d, G1, fun _ => [], fun m r e => ?_, argsD st1 rs, ?_⟩
      · cases ds with
        | nil => cases e
        | cons d ds => cases e
      · generalize callF w.P k f (ds.map .d) = r at z
        cases r with
        | bad => exact z.elim
        | exc cc =>
          refine fun H' G' F' s ex => ?_
          obtain ⟨_, s2⟩ := st1.after (Fc := fun _ => []) (fun i a m => absurd m (by simp)) s ex.sub ex.tab
          exact z _ _ _ s2 ex
        | ok r =>
          refine fun H' G' F' s v s2 => ?_
          obtain ⟨s3, s4⟩ := st1.after (Fc := fun _ => []) (fun i a m => absurd m (by simp)) s s2.sub s2.tab
          obtain ⟨d, e, z⟩ := Post.ofO (show Post w H1 G1 F1 ((ofO (datO r.1)).bind fun z => .ok (z, σ1)) (KE w pv σ Q) (KX w W σ) from z)
          obtain ⟨r1, r2⟩ := r
          cases r1 with
          | m _ => cases e
          | d xd =>
            cases e
            obtain ⟨v', e', rv⟩ := s2.slot 0 (.d d) rfl
            cases e'
            exact z _ _ _ s4 s3 v rv
    cases Es with
    | nil =>
      have l0 := (cks_good h3).2
      refine ofPE (pe_callS0 m4 (c.room.mono (Nat.le_add_right ..)) gx m1 m2 m3 (passAt c.takes) (okN_d ok).1) ?_
      cases es with
      | cons _ _ => simp at l0
      | nil => exact use (ds := []) (σ1 := σa) st .nil rfl pp
    | cons E Es =>
      obtain ⟨g1, l0⟩ := cks_good h3
      rw [List.all_cons, Bool.and_eq_true] at g1
      refine ofPE (pe_callS m4 (c.room.mono (Nat.le_add_right ..)) gx m1 m2 m3 (passAt c.takes) paW (okN_d ok).1 (good_star g1.1) (star_none g1.2)) ?_
      refine hs c h3 pv σa σ H G F _ st (Post.then pp fun q H1 G1 F1 eq _ z st1 xs rs => use st1 rs (sms_length eq) z)
  · cases h

/-- the first argument owned -/
theorem argsO (st : StOk w pv σa σ H G F) {j : Nat} {q : Bool} {m : Mu} {v : V} (e : σa[j]? = some (.m q m)) (ev : σ[j]? = some (some v)) {vs : List V} {ds : List D} (r : RpAll w.K G vs ds) :
    StOk w v ((AV.m m :: ds.map AV.d).map slotA) ((v :: vs).map some) H G (fun i => if i = 0 then F j else []) := by
  obtain ⟨v', e1, rm, _⟩ := st.slot j _ e
  rw [ev] at e1
  cases e1
  refine ⟨by simp [r.length], st.sub, fun i x e => ?_, fun i i' n a ma => ?_, fun i a ma => ?_, fun i a ma => ?_, st.tab⟩
  · cases i with
    | zero =>
      have e' : Slot.m true m = x := Option.some.inj e
      subst e'
      exact ⟨v, rfl, rm, fun _ => rfl⟩
    | succ i =>
      have e' : ((ds.map AV.d).map slotA)[i]? = some x := e
      rw [List.map_map, List.getElem?_map] at e'
      cases q : ds[i]? with
      | none => rw [q] at e'; cases e'
      | some d =>
        rw [q] at e'
        cases e'
        obtain ⟨u, e1, r1⟩ := r.get' q
        exact ⟨u, by show (vs.map some)[i]? = _; rw [List.getElem?_map, e1]; rfl, r1⟩
  · by_cases h : i = 0
    · rw [if_neg fun z => n (h.trans z.symm)]; simp
    · rw [if_neg h] at ma; exact absurd ma (by simp)
  · by_cases h : i = 0
    · rw [if_pos h] at ma; exact st.free j a ma
    · rw [if_neg h] at ma; exact absurd ma (by simp)
  · by_cases h : i = 0
    · rw [if_pos h] at ma; exact st.there j a ma
    · rw [if_neg h] at ma; exact absurd ma (by simp)
/-- behind a call that has changed the owned thing at slot j -/
theorem StOk.afterO (st : StOk w pv σa σ H G F) {j : Nat} {q : Bool} {m m' : Mu} {v : V} (e : σa[j]? = some (.m q m)) (ev : σ[j]? = some (some v)) (s : Step w H G (fun i => if i = 0 then F j else []) H1 G1 F1) {r : AV} {u : V}
    (s2 : StOk w v [resS r, ownS (some m')] [some u, some v] H1 G1 F1) : StOk w pv (σa.set j (.m q m')) σ H1 G1 (fun i => if i = j then F1 1 else F i) ∧ Step w H G F H1 G1 (fun i => if i = j then F1 1 else F i) := by
  obtain ⟨v', e1, _, hpv⟩ := st.slot j _ e
  rw [ev] at e1
  cases e1
  have out : ∀ i, i ≠ j → ∀ a ∈ F i, ∀ i', a ∉ (if i' = 0 then F j else []) := fun i n a ma i' => by
    by_cases h : i' = 0
    · rw [if_pos h]; exact st.disj i j n a ma
    · rw [if_neg h]; simp
  have kp : ∀ i, i ≠ j → ∀ a ∈ F i, H1 a = H a ∧ G1 a = none := fun i n a ma => by
    obtain ⟨o, e, mu⟩ := st.there i a ma
    have z := s.keep a o e (out i n a ma) (st.tabNe e fun q z => by rw [z] at mu; exact mu)
    exact ⟨z.1.trans e.symm, z.2 (st.free i a ma)⟩
  obtain ⟨v2, e2, rm2, _⟩ := s2.slot 1 (.m true m') rfl
  cases e2
  have new : ∀ a ∈ F1 1, a ∈ F j ∨ H a = none := fun a ma => by
    rcases s.fresh 1 a ma with ⟨i', z⟩ | z
    · by_cases h : i' = 0
      · rw [if_pos h] at z; exact .inl z
      · rw [if_neg h] at z; exact absurd z (by simp)
    · exact .inr z
  have dis : ∀ i, i ≠ j → ∀ a ∈ F i, a ∉ F1 1 := fun i n a ma z => by
    rcases new a z with y | y
    · exact st.disj i j n a ma y
    · obtain ⟨o, e, _⟩ := st.there i a ma
      rw [y] at e; cases e
  refine ⟨⟨by simp [st.len], s2.sub, fun i x h => ?_, fun i i' n a ma => ?_, fun i a ma => ?_, fun i a ma => ?_, s2.tab⟩, ⟨s.gle, fun a o h n t => s.keep a o h (fun i' => ?_) t, fun i a ma => ?_, s.tabk⟩⟩
  · by_cases hi : i = j
    · subst hi
      rw [List.getElem?_set] at h
      simp only [if_true] at h
      split at h
      · cases h
        exact ⟨v, ev, by simpa using rm2, hpv⟩
      · cases h
    · rw [List.getElem?_set_ne (Ne.symm hi)] at h
      simp only [if_neg hi]
      exact (st.slot i x h).mono s.gle fun a ma => (kp i hi a ma).1
  · by_cases h : i = j
    · rw [if_pos h] at ma
      by_cases h' : i' = j
      · exact absurd (h.trans h'.symm) n
      · rw [if_neg h']; exact fun z => dis i' h' a z ma
    · rw [if_neg h] at ma
      by_cases h' : i' = j
      · rw [if_pos h']; exact dis i h a ma
      · rw [if_neg h']; exact st.disj i i' n a ma
  · by_cases h : i = j
    · rw [if_pos h] at ma; exact s2.free 1 a ma
    · rw [if_neg h] at ma; exact (kp i h a ma).2
  · by_cases h : i = j
    · rw [if_pos h] at ma; exact s2.there 1 a ma
    · rw [if_neg h] at ma
      obtain ⟨o, e, mu⟩ := st.there i a ma
      exact ⟨o, (kp i h a ma).1.trans e, mu⟩
  · by_cases h' : i' = 0
    · rw [if_pos h']; exact n j
    · rw [if_neg h']; simp
  · by_cases h : i = j
    · rw [if_pos h] at ma
      exact (new a ma).imp (fun z => ⟨j, z⟩) id
    · rw [if_neg h] at ma; exact .inl ⟨i, ma⟩
/-- an exception behind such a call -/
theorem Step.ofO {j : Nat} (s : Step w H G (fun i => if i = 0 then F j else []) H1 G1 F1) : ∃ F', Step w H G F H1 G1 F' :=
  ⟨fun _ => [], s.gle, fun a o h n t => s.keep a o h (fun i' => by
    by_cases h' : i' = 0
    · rw [if_pos h']; exact n j
    · rw [if_neg h']; simp) t, fun _ _ m => absurd m (by simp), s.tabk⟩
theorem snd_callO (f j : Nat) {es : List Ex} (hs : SndL w es) : Snd w (.callO f j es) := by
  refine snd_plain rfl (fun _ => rfl) (fun kc E h => by cases E <;> first | rfl | cases h) fun {kc k X W E} c g h => ?_
  split at h
  · rename_i x p y py Es pos
    simp only [Bool.and_eq_true] at h
    obtain ⟨⟨h1, h2, h4⟩, h3⟩ := h
    obtain ⟨gx, ok⟩ := gl_of c h1
    obtain ⟨Fd, e1, e2, e3⟩ := fn_ok c h2
    obtain ⟨fa, fd, m1, m2, m3, m4⟩ := c.fns f Fd e1
    rw [e2] at m1
    rw [← c.hK] at m2 m3 m4
    obtain ⟨g1, l0⟩ := cks_good h3
    intro pv σa σ H G F Q st pp
    refine ofPE (pe_callS m4 (c.room.mono (Nat.le_add_right ..)) gx m1 m2 m3 (passAt c.takes) (pa_cons (var_of c h4) paW rfl) (okN_d ok).1 rfl (star_none g1)) ?_
    dsimp only [sm, Sm.of] at pp
    split at pp
    · rename_i q0 m0 em0
      obtain ⟨v0, ev, _⟩ := st.slot j _ em0
      refine ⟨v0, ev, hs c h3 pv σa σ H G F _ st (Post.then pp fun q H1 G1 F1 eq _ z st1 xs rs => ?_)⟩
      split at z
      · rename_i qb m em
        refine ⟨by rw [List.length_cons, rs.length, sms_length eq, e3], v0, .m m :: q.1.map .d, G1, fun i => if i = 0 then F1 j else [], fun _ _ _ => rfl, argsO st1 em ev rs, ?_⟩
        generalize callF w.P k f (.m m :: q.1.map .d) = r at z
        cases r with
        | bad => exact z.elim
        | exc cc =>
          refine fun H' G' F' s ex => ?_
          obtain ⟨F2, s2⟩ := s.ofO (F := F1)
          exact z _ _ _ s2 ex
        | ok r =>
          refine fun H' G' F' s v s2 => ?_
          obtain ⟨r1, r2⟩ := r
          cases r2 with
          | none => exact z.elim
          | some m' =>
            obtain ⟨s3, s4⟩ := st1.afterO em ev s s2
            obtain ⟨d, e, z⟩ := Post.ofO (show Post w H1 G1 F1 ((ofO (datO r1)).bind fun z => .ok (z, q.2.set j (.m qb m'))) (KE w pv σ Q) (KX w W σ) from z)
            cases r1 with
            | m _ => cases e
            | d xd =>
              cases e
              obtain ⟨v', e', rv⟩ := s2.slot 0 (.d d) rfl
              cases e'
              exact z _ _ _ s4 s3 v rv
      · exact z.elim
    · exact pp.elim
  · cases h
end
end N
/-! NS1: set(x) of a list of ints. -/
namespace N
open PySem PySem.Spec PyProof.Rows L2
section
variable {P : Program} {w : World} {A : Around} {E : Value → Shared → Prop} {s : Shared}
abbrev so0 (w : World) : Obj := { cls := Value.type "set", dict := Option.none, data := Data.set #[] 0 (.fresh 0 0 (!w.params.followText "set-order")) }
abbrev hp1 (w : World) (s : Shared) : Heap := s.heap.push (so0 w)
theorem call_setL {l : Addr} {items : Array Value} (ns : List Int) {Q : Value → Shared → Prop} (hnd : A.handled = none) (lst0 : s.heap.IsList l items) (its0 : IntsAre items.toList ns) (bnd : ns.length + 1 < scanBound)
    (h : ∀ (h' : Heap) (tk c : Nat), SetR w h' s.heap.objs.size (fun j => decide (j ∈ ns)) c → c ≤ ns.length → (∀ b o, s.heap.get? b = some o → h'.get? b = some o) → Q (.ref s.heap.objs.size) { s with heap := h', toks := tk }) :
    wpAny (model P w) A (call (.type "set") [.ref l]) Q E s := by
  have sz0 : items.size = ns.length := by
    have q := IntsAre.length its0
    rw [Array.length_toList] at q
    exact q
  obtain ⟨c, tl, mro0⟩ := F.called_set.mro
  have made0 := F.called_set.made
  have sub0 := F.called_set.sub
  refine wpAny_call (codeAny_of_tree ?_)
  show wpAny _ _ (callAny (.type "set") _) _ _ _
  refine wpAny_pure ⟨Code.quiet_builtin _ (by decide +kernel), codeAny_builtin F.entry_type_call ?_⟩
  rw [Around.under_plain (weight_type_call_type "set" [.ref l] []) rfl]
  have h1 := F.called_set.notType
  have h2 := F.called_set.canCreate
  have tc0 := F.typeCall_set_1 (.ref l)
  repeat (any_goals (first | assumption | wp_step))

  refine codeAny_mono (code_set_led1 (.ref l) (E := E) (Q₁ := fun obj s₁ => obj = .ref s.heap.objs.size ∧ s₁ = { s with heap := hp1 w s }) ⟨rfl, rfl⟩) fun r s₁ rr => ?_
  cases r with
  | error e => exact rr
  | ok fl =>
    cases fl with
    | ret obj =>
      obtain ⟨rfl, rfl⟩ := rr
      have oS : (hp1 w s).get? s.heap.objs.size = some (so0 w) := Heap.get?_push_size _ rfl
      have tS : Shared.TypeIs { s with heap := hp1 w s } (.ref s.heap.objs.size) "set" := ⟨_, oS, rfl⟩
      have in0 := F.called_set.init.lookup
      have bi0 := F.called_set.init.bind (.ref s.heap.objs.size)
      repeat (any_goals (first | assumption | wp_step))

      refine codeAny_mono (codeAny_call_builtin (R := wants (fun r s₂ => r = .none ∧ ∃ h' tk c, s₂ = { s with heap := h', toks := tk } ∧ SetR w h' s.heap.objs.size (fun j => decide (j ∈ ns)) c ∧ c ≤ ns.length ∧
          (∀ b o, s.heap.get? b = some o → h'.get? b = some o)) E) F.called_set.init.plain F.entry_set_init (check_set_init_1 tS ?_)) fun r₂ s₂ hr₂ => ?_
      · obtain ⟨o0, oL, cL, n0, dL⟩ := lst0
        obtain ⟨c0, d0, da0, sl0⟩ := o0
        simp only at cL dL
        subst cL; subst dL
        have oL2 : (hp1 w s).get? l = some { cls := .type "list", dict := d0, data := .seq items n0, slots := sl0 } := Heap.get?_push_of_some _ oL
        have ls0 := F.sub_list_set
        have lf0 := F.sub_list_frozenset
        have ne0 : (Value.type "list" == Value.type "dict") = false := by decide
        have l1 : (hp1 w s).IsList l items := ⟨_, oL2, rfl, n0, rfl⟩
        unfold Builtin.«set.__init__» noKeywords Builtin.Frozenset.updateFrom
        generalize eIT : pyIter = IT
        wp_walk
        subst eIT

        refine wpAny_pyIter_list l1 ?_
        refine wpAny_bind (wpAny_runValue ?_)
        have lS : l < s.heap.objs.size := Heap.lt_size oL
        have h3 : A.in1.in1.in1.handled = none := by simp [hnd]
        have z1 : (hp1 w s).objs.size = s.heap.objs.size + 1 := Heap.size_push ..
        have neI : l ≠ (hp1 w s).objs.size := by
          rw [Heap.size_push]; exact Nat.ne_of_lt (Nat.lt_succ_of_lt lS)
        have fS : s.heap.objs.size ∉ [(hp1 w s).objs.size, l] := by
          rw [Heap.size_push]; simp only [List.mem_cons, List.mem_singleton, List.not_mem_nil, or_false, not_or]
          exact ⟨Nat.ne_of_lt (Nat.lt_succ_self _), Nat.ne_of_gt lS⟩
        have vl : ∀ (i : Nat) (v : Value), items[i]? = some v → ∃ k t, ns[i]? = some k ∧ v = .int k t := fun i v hv => by
          have hi : i < ns.length := by rw [← sz0]; exact (Array.getElem?_eq_some_iff.mp hv).1
          obtain ⟨t, e⟩ := PyProof.Rows.IntsAre.int_at its0 i v (by rw [Array.getElem?_toList]; exact hv)
          refine ⟨ns[i], t, List.getElem?_eq_getElem hi, ?_⟩
          rw [e, List.getD_eq_getElem?_getD, List.getElem?_eq_getElem hi] <;> rfl
        refine set_update_ints ((Walks.list h3 _ l neI items).toS) s.heap.objs.size
          fS ns sz0 bnd vl (items.size - 0) 0 _ (by omega) (Nat.zero_le _)
          ⟨⟨_, Heap.get?_push_size _ rfl, rfl, rfl⟩, (l1.push _)⟩ ?hS0 ?hR
        case hS0 =>
          have gt0 : ((hp1 w s).push { cls := .type "list_iterator", data := .fields #[.ref l, .int 0 0] }).get? s.heap.objs.size
              = some (so0 w) := Heap.get?_push_of_some _ oS
          exact ⟨0, Nat.le_refl 0, setR_new_at gt0⟩
        case hR =>
          intro s' c' mv cc2 oS2
          obtain ⟨h', g2, d', tk', os'⟩ := s'
          have eg : g2 = s.gens := mv.gens
          have ed : d' = s.drawn := mv.drawn
          have eo : os' = s.os := mv.os
          subst eg; subst ed; subst eo
          show wpAny _ _ _ _ _ _
          refine wpAny_pure ?_
          show wpAny _ _ (ret Value.none) _ _ _
          rw [sz0] at cc2
          refine wpAny_pure ⟨rfl, h', tk', c', rfl, oS2, cc2, fun b o e => ?_⟩
          have b0 : b < s.heap.objs.size := Heap.lt_size e
          have b1 : b ≠ s.heap.objs.size := Nat.ne_of_lt b0
          have b2 : b ≠ (hp1 w s).objs.size := by
            rw [Heap.size_push]; exact Nat.ne_of_lt (Nat.lt_succ_of_lt b0)
          exact mv.heap b o (by simp only [List.mem_cons, List.mem_singleton, List.not_mem_nil, or_false, not_or]; exact ⟨b1, b2⟩) (Heap.get?_push_of_some _ (Heap.get?_push_of_some _ e))

      · cases r₂ with
        | error e => exact hr₂
        | ok fl₂ =>
          cases fl₂ with
          | ret r =>
            obtain ⟨rfl, h', tk, c', rfl, oS2, cc2, kk2⟩ := hr₂
            repeat (any_goals (first | assumption | wp_step))
            exact h _ _ _ oS2 cc2 kk2
          | _ => exact hr₂.elim
    | _ => exact rr.elim


end
theorem insU_mem (x : Int) : ∀ ns : List Int, ∀ k, k ∈ insU x ns ↔ k = x ∨ k ∈ ns
  | [], k => by simp [insU]
  | y :: ys, k => by
    unfold insU
    split
    · simp
    · split
      · rename_i e; subst e; simp
      · simp only [List.mem_cons, insU_mem x ys k]
        constructor
        · rintro (h | h | h)
          · exact .inr (.inl h)
          · exact .inl h
          · exact .inr (.inr h)
        · rintro (h | h | h)
          · exact .inr (.inl h)
          · exact .inl h
          · exact .inr (.inr h)
theorem insU_lt {x : Int} : ∀ {ns : List Int}, ns.Pairwise (· < ·) → (insU x ns).Pairwise (· < ·)
  | [], _ => by simp [insU]
  | y :: ys, h => by
    unfold insU
    have h0 := h
    rw [List.pairwise_cons] at h
    split
    · rename_i c
      refine List.pairwise_cons.mpr ⟨fun z hz => ?_, h0⟩
      rcases List.mem_cons.mp hz with rfl | hz
      · exact c
      · have := h.1 z hz; omega
    · split
      · exact h0
      · refine List.pairwise_cons.mpr ⟨fun z hz => ?_, insU_lt h.2⟩
        rcases (insU_mem x ys z).mp hz with rfl | hz
        · omega
        · exact h.1 z hz
theorem usort_mem : ∀ (ns : List Int) (k : Int), k ∈ usort ns ↔ k ∈ ns
  | [], _ => Iff.rfl
  | x :: xs, k => by rw [usort, insU_mem, usort_mem xs, List.mem_cons]
theorem usort_lt : ∀ ns : List Int, (usort ns).Pairwise (· < ·)
  | [] => .nil
  | _ :: xs => insU_lt (usort_lt xs)
theorem asc_uniq : ∀ {a b : List Int}, a.Pairwise (· < ·) → b.Pairwise (· < ·) → (∀ k, k ∈ a ↔ k ∈ b) → a = b
  | [], [], _, _, _ => rfl
  | [], y :: _, _, _, h => absurd ((h y).mpr (List.mem_cons_self ..)) (by simp)
  | x :: _, [], _, _, h => absurd ((h x).mp (List.mem_cons_self ..)) (by simp)
  | x :: xs, y :: ys, ha, hb, h => by
    rw [List.pairwise_cons] at ha hb
    have e : x = y := by
      rcases List.mem_cons.mp ((h x).mp (List.mem_cons_self ..)) with e | e
      · exact e
      · rcases List.mem_cons.mp ((h y).mpr (List.mem_cons_self ..)) with e2 | e2
        · exact e2.symm
        · have := hb.1 x e; have := ha.1 y e2; omega
    subst e
    congr 1
    refine asc_uniq ha.2 hb.2 fun k => ?_
    constructor
    · intro hk
      rcases List.mem_cons.mp ((h k).mp (List.mem_cons_of_mem _ hk)) with e | e
      · have := ha.1 k hk; omega
      · exact e
    · intro hk
      rcases List.mem_cons.mp ((h k).mpr (List.mem_cons_of_mem _ hk)) with e | e
      · have := hb.1 k hk; omega
      · exact e
section
variable {X : Cx}
/-- set(x), x a list of ints -/
def rSetL (K : PySem.W.Frag) (w : World) : List V → Hp → VK → Prop := fun xs H Q => ∃ (l : Addr) (ns : List Int), xs = [V.ref l] ∧ SqL K H l (ns.map V.int) ∧ ns.length < 64 ∧ ∀ (a : Addr) (n : Nat), H a = none → n ≤ ns.length → Q (.ref a) (upd H a (SetO w a (fun j => decide (j ∈ ns)) n))
theorem cr_setL (hc : X.calm = true) : CallR X (.type "set") (rSetL X.K X.w) := by
  intro pins s σ H xs us Q I r h
  obtain ⟨l, ns, rfl, hs, hn, q⟩ := h
  rw [Vals.ref1 r]
  obtain ⟨its, rv, pl, hz⟩ := I.list hs
  have fr : H s.heap.objs.size = none := I.hok.fresh (Nat.le_refl _)
  refine call_setL (P := X.prog) (w := X.w) ns (I.ok.hd hc) pl.isList (by simpa using rv.ints) (by show ns.length + 1 < 4096; omega) fun h' tk c R cle k => ?_
  exact ⟨.ref s.heap.objs.size, upd H s.heap.objs.size (SetO X.w s.heap.objs.size (fun j => decide (j ∈ ns)) c), I.laid (t' := tk) k (Nat.le_refl _) (setO_new R), rfl, q _ c fr cle⟩
end
end N
/-! N9: built-ins by name, isinstance, methods, reads of owned things. -/
namespace N
open PySem PySem.Spec PyProof.Rows L2
section
variable {w : Wd} {kc : Kc} {k : Nat} {X : Cx} {W : WX} {pv : V} {σa : En} {σ : L2.St} {H G H1 G1 : Hp} {F F1 : Fp} {E A B I T : Expr}
theorem boot_blt (f : Blt) : bootBuiltins (bltN f) = some (bltV f) := by cases f <;> decide +kernel
theorem bltN_in (f : Blt) : bltN f ∈ BN := by cases f <;> decide +kernel
theorem bltN_ok (f : Blt) : bltN f ≠ "__name__" ∧ (bltN f == ("__debug__" : Str)) = false := by cases f <;> decide +kernel
theorem pe_blt (f : Blt) {r : List V → Hp → VK → Prop} {t : TA} {p pos : Pos} {Es : List Expr} (hc : CallR X (bltV f) r) (hg : Gl X (bltN f)) (hm : X.mg (bltN f) = none) (ha : PA X (E :: Es) t) (g1 : goodE E = true) (g2 : Es.all goodE = true) :
    PE X (.Call (.Name (bltN f) p) (E :: Es) [] pos) (tCB r t) := by
  have b := boot_blt f
  have ⟨n1, n2⟩ := bltN_ok f
  cases f with
  | len => exact pe_callB hc hg hm b ha n1 n2 (good_star g1) (star_none g2)
  | int => exact pe_callTy hc hg hm b ha n1 n2 (good_star g1) (star_none g2)
  | abs => exact pe_callB hc hg hm b ha n1 n2 (good_star g1) (star_none g2)
  | min => exact pe_callB hc hg hm b ha n1 n2 (good_star g1) (star_none g2)
  | max => exact pe_callB hc hg hm b ha n1 n2 (good_star g1) (star_none g2)
  | sum => exact pe_callB hc hg hm b ha n1 n2 (good_star g1) (star_none g2)
  | list => exact pe_callTy hc hg hm b ha n1 n2 (good_star g1) (star_none g2)
  | tuple => exact pe_callTy hc hg hm b ha n1 n2 (good_star g1) (star_none g2)
  | sorted => exact pe_callB hc hg hm b ha n1 n2 (good_star g1) (star_none g2)
  | any => exact pe_callB hc hg hm b ha n1 n2 (good_star g1) (star_none g2)
  | all => exact pe_callB hc hg hm b ha n1 n2 (good_star g1) (star_none g2)
theorem snd_blt (f : Blt) {es : List Ex} (hs : SndL w es) : Snd w (.blt f es) := by
  refine snd_plain rfl (fun _ => rfl) (fun kc E h => by cases E <;> first | rfl | cases h) fun {kc k X W E} c g h => ?_
  split at h
  · rename_i x p Es pos
    simp only [Bool.and_eq_true, decide_eq_true_eq] at h
    obtain ⟨⟨h1, h2, h4⟩, h3⟩ := h
    subst h1
    obtain ⟨gx, ok⟩ := gl_of c h2
    obtain ⟨g1, l0⟩ := cks_good h3
    intro pv σa σ H G F Q st pp
    cases Es with
    | nil => rw [← l0] at h4; exact absurd h4 (by simp)
    | cons E Es =>
      rw [List.all_cons, Bool.and_eq_true] at g1
      refine ofPE (pe_blt f anyCall_ok gx (c.mgs.blt _ (bltN_in f)) paW g1.1 g1.2) (hs c h3 pv σa σ H G F _ st (Post.then pp fun q H1 G1 F1 _ _ z st1 xs rs => ?_))
      obtain ⟨d, e, z⟩ := z.ofO
      obtain ⟨r, ro, rf⟩ := blt_ok (w := w) c.hK c.calm e
      exact ⟨r, ro, rf st1 rs fun v H' G' st' step rv => z _ _ _ step st' v rv⟩
  · cases h
theorem tkN_in (t : Tk) : Str.ofString (tkN t) ∈ BN ∧ bootBuiltins (Str.ofString (tkN t)) = some (.type (tkN t)) ∧ Str.ofString (tkN t) ≠ "__name__" ∧ (Str.ofString (tkN t) == ("__debug__" : Str)) = false := by
  cases t <;> decide +kernel
theorem snd_isi (t : Tk) {a : Ex} (ha : Snd w a) : Snd w (.isi a t) := by
  refine snd_plain rfl (fun _ => rfl) (fun kc E h => by cases E <;> first | rfl | cases h) fun {kc k X W E} c g h => ?_
  split at h
  · rename_i x p A y py pos
    simp only [Bool.and_eq_true, decide_eq_true_eq] at h
    obtain ⟨⟨h1, h2, h3, h4⟩, h5⟩ := h
    subst h1
    subst h3
    obtain ⟨gx, ok⟩ := gl_of c h2
    obtain ⟨gy, oy⟩ := gl_of c h4
    obtain ⟨t1, t2, t3, t4⟩ := tkN_in t
    intro pv σa σ H G F Q st pp
    have hty : PE X (.Name (Str.ofString (tkN t)) py) (tC (.ty (tkN t))) := pe_bltn gy (c.mgs.blt _ t1) t2 rfl t3 t4
    refine ofPE (pe_callB anyCall_ok gx (c.mgs.blt _ (by decide +kernel)) (show bootBuiltins (Str.ofString "isinstance") = some (.builtin "isinstance") by decide +kernel) (pa_cons peW (pa_cons hty pa_nil rfl) (good_star (ck_good h5))) (by decide +kernel) (by decide +kernel) (good_star (ck_good h5)) rfl)
      (ha.v c h5 pv σa σ H G F _ st (Post.then pp fun q H1 G1 F1 _ _ z st1 v rv => ?_))
    obtain ⟨r, ro, rf⟩ := isi_ok (w := w) c.hK q.1 t
    exact ⟨r, ro, rf st1 rv fun v H' G' st' step rv => z _ _ _ step st' v rv⟩
  · cases h
/-! ### methods -/
def MthOk (X : Cx) (w : Wd) (id : String) (x : D) (ds : List D) (z : D) : Prop :=
  ∃ r, MtR X id r ∧ ∀ {pv σa σ H G F v vs Q}, StOk w pv σa σ H G F → Rp w.K G v x → RpAll w.K G vs ds → Fin1 w pv σa σ H G F z Q → r v vs H Q
/-- a method of a built-in type, the type and the rule chosen by the values -/
theorem peM {te : TE} {t : TA} {E : Expr} {Es : List Expr} {name : Str} {apos cpos : Pos} (ho : PE X A te) (ha : PA X (E :: Es) t) (hbase : attributeBase A name X.env (eval A X.env) = eval A X.env)
    (hfew : ((backTo cpos (starEach (E :: Es) X.env)).all (fun x => !x.1) && (backToKw cpos (keywordEach [] X.env)).all (fun x => x.1.isSome) && decide ((E :: Es).length + ([] : List Keyword).length + (if ([] : List Keyword).isEmpty then 0 else 1) < 30)) = true)
    (hline : (apos.endLine == cpos.line) = true) (g1 : goodE E = true) (g2 : Es.all goodE = true) :
    PE X (.Call (.Attribute A name apos) (E :: Es) [] cpos) (fun σ H Q => te σ H fun x H1 => ∃ T id, PlainAttrs T ∧ PySem.Slot T name id ∧ typeOf (.builtin id) = pure (.type "method_descriptor") ∧ tyV X.K T x H1 ∧ t σ H1 fun xs H2 => ∃ r, MtR X id r ∧ r x xs H2 Q) := by
  refine ⟨fun pn st sg hp Q iv h => ?_⟩
  refine wpAny_Call_method_late hbase hfew hline rfl (thn (ho.run pn st sg hp _ iv h) fun u s1 ⟨x, H1, I1, r1, T, id, pa, sl, ty, tv, q1⟩ => ?_)
  obtain ⟨k1, k2⟩ := tyV_is I1 r1 tv
  refine ⟨T, id, pa, sl, ty, k1, k2, ?_⟩
  have hA := ha.run cpos pn s1 sg H1 _ I1 q1
  rw [good_star g1] at hA ⊢
  refine Calls.callWith_builtin (by show (false || (backTo cpos (starEach Es X.env)).any (·.1)) = false; rw [star_none g2] <;> rfl) (Calls.evalArgs_plain ?_)
  exact thn hA fun us s2 ⟨vs, H2, I2, r2, r, hm, q2⟩ => hm pn s2 sg H2 x vs u us Q I2 r1 r2 q2
theorem base_of {env : PySem.Env} {name : Str} {wh : Sem Value} (h : noSuper A = true) : attributeBase A name env wh = wh := by
  cases A <;> try rfl
  rename_i f as ks pos
  cases f <;> try rfl
  cases as <;> try rfl
  cases ks <;> try rfl
  rename_i id p
  have h' : (!(id == ("super" : Str))) = true := h
  have e : (id != ("super" : Str)) = true := h'
  unfold attributeBase
  simp only [e, Bool.true_or, if_true]
theorem strsO_some : ∀ {xs : List D} {ns : List Str}, strsO xs = some ns → xs = ns.map .str
  | [], ns, h => by cases h; rfl
  | x :: xs, ns, h => by
    cases x <;> simp only [strsO] at h <;> try cases h
    cases e : strsO xs with
    | none => rw [e] at h; cases h
    | some ms => rw [e] at h; cases h; rw [strsO_some e]; rfl
theorem rpStrs {K : PySem.W.Frag} {G : Hp} : ∀ {vs : List V} {ns : List Str}, RpAll K G vs (ns.map .str) → vs = ns.map V.str
  | _, [], .nil => rfl
  | _, n :: ns, .cons a b => by rw [a.str_inv, rpStrs b]; rfl
theorem mth_ok (hK : X.K = w.K) {m : Mth} {x : D} (hk : mthK m x = true) : ∃ T id, PlainAttrs T ∧ PySem.Slot T (mthN m) id ∧ typeOf (.builtin id) = pure (.type "method_descriptor") ∧ (∀ {G H v}, Le G H → Rp w.K G v x → tyV w.K T v H) ∧ ∀ {ds z}, mthD m x ds = some z → MthOk X w id x ds z := by
  cases m with
  | count =>
    cases x <;> try exact Bool.noConfusion hk
    refine ⟨"str", _, PySem.F.plainAttrs_str, PySem.F.slot_str_count, PySem.F.type_str_count, fun l r => by rw [r.str_inv]; rfl, fun {ds z} h => ?_⟩
    unfold mthD at h
    split at h <;> try (cases h; done)
    rotate_left
    · rename_i e _; cases e
    rename_i s t e
    cases e
    cases h
    exact ⟨_, mt_count, fun st r rs q => by obtain ⟨v, rfl, r1⟩ := rp1 rs; exact ⟨_, _, r.str_inv, by rw [r1.str_inv], q.flat st (.int _)⟩⟩
  | join =>
    cases x <;> try exact Bool.noConfusion hk
    rename_i s0
    refine ⟨"str", _, PySem.F.plainAttrs_str, PySem.F.slot_str_join, PySem.F.type_str_join, fun l r => by rw [r.str_inv]; rfl, fun {ds z} h => ?_⟩
    unfold mthD at h
    split at h <;> try (cases h; done)
    · rename_i e _; cases e
    · rename_i s ts _ e
      cases e
      cases es : strsO ts with
      | none => rw [es] at h; cases h
      | some ys =>
        rw [es] at h
        have h2 : (if (ys.map (·.length)).sum + ys.length * s0.length ≤ 16777216 then some (PyData.str (Txt.join s0 ys)) else none) = some z := h
        split at h2
        · rename_i hb
          cases h2
          refine ⟨_, mt_join, fun st r rs q => ?_⟩
          obtain ⟨v, rfl, r1⟩ := rp1 rs
          obtain ⟨p, us, rfl, sp, ru⟩ := r1.lst_inv
          rw [strsO_some es] at ru
          rw [rpStrs ru] at sp
          exact ⟨_, p, ys, r.str_inv, rfl, .inl (by rw [hK]; exact st.sub.sqL sp), hb, q.flat st (.str _)⟩
        · cases h2
theorem snd_mth (m : Mth) {a : Ex} {es : List Ex} (ha : Snd w a) (hs : SndL w es) : Snd w (.mth m a es) := by
  refine snd_plain rfl (fun _ => rfl) (fun kc E h => by cases E <;> first | rfl | cases h) fun {kc k X W E} c g h => ?_
  split at h
  · rename_i A x apos Es pos
    simp only [Bool.and_eq_true, decide_eq_true_eq] at h
    obtain ⟨⟨h1, h2, h3, h4⟩, h5, h6⟩ := h
    subst h1
    obtain ⟨g1, l0⟩ := cks_good h6
    intro pv σa σ H G F Q st pp
    match Es, g1, l0, h6 with
    | [E], g1, l0, h6 =>
      rw [List.all_cons, Bool.and_eq_true] at g1
      refine ofPE (peM peW paW (base_of h2) (by rw [good_star g1.1]; rfl) h3 g1.1 rfl) (ha.v c h5 pv σa σ H G F _ st (Post.then pp fun q H1 G1 F1 _ _ z st1 v rv => ?_))
      split at z
      · rename_i hk
        obtain ⟨T, id, p1, p2, p3, p4, p5⟩ := mth_ok (w := w) (X := X) c.hK hk
        refine ⟨T, id, p1, p2, p3, by rw [c.hK]; exact p4 st1.sub rv, hs c h6 pv _ σ H1 G1 F1 _ st1 (Post.then z fun q2 H2 G2 F2 _ s2 z2 st2 vs rs => ?_)⟩
        obtain ⟨d, e, z3⟩ := z2.ofO
        obtain ⟨r, ro, rf⟩ := p5 e
        exact ⟨r, ro, rf st2 (rv.mono s2.gle) rs fun v H' G' st' step rv => z3 _ _ _ step st' v rv⟩
      · exact z.elim
    | [], _, l0, _ => rw [h4] at l0; cases l0
    | _ :: _ :: _, _, l0, _ => rw [h4] at l0; simp at l0
  · cases h
/-! ### owned things as they are read -/
theorem eqKey_keyD {a b : Key} : eqKey (keyD a) (keyD b) = decide (a = b) := by
  cases a <;> cases b <;> simp [keyD, eqKey]
theorem isKey_keyD {d : D} (h : isKey d = true) : ∃ k, d = keyD k := by
  cases d <;> first | exact Bool.noConfusion h | exact ⟨.inl _, rfl⟩ | exact ⟨.inr _, rfl⟩
theorem Rp.key_inv {K : PySem.W.Frag} {v : V} {k : Key} (r : Rp K G v (keyD k)) : v = kV k := by
  cases k with
  | inl i => exact r.int_inv
  | inr s => exact r.str_inv
theorem RMk.key {K : PySem.W.Frag} : ∀ {vs : List (Key × V)} {kvs : List (D × Mu)} {f : List Addr} {k : Key} {x : D}, RMk K H G vs kvs f → getK (keyD k) kvs = some (.d x) → ∃ v, valV vs k = some v ∧ Rp K G v x
  | _, _, _, _, _, .nil, h => by cases h
  | _, _, _, k, x, .cons (k := kk) r t n, h => by
    have h' : (if eqKey (keyD kk) (keyD k) = true then some _ else getK (keyD k) _) = some (Mu.d x) := h
    rw [eqKey_keyD] at h'
    by_cases e : kk = k
    · rw [if_pos (decide_eq_true e)] at h'
      cases h'
      cases r with
      | d r => exact ⟨_, valV_pos e, r⟩
    · rw [if_neg (by simpa using e)] at h'
      obtain ⟨v, e1, r1⟩ := RMk.key t h'
      exact ⟨v, by rw [valV_neg e]; exact e1, r1⟩
theorem good_noSl (g : goodE I = true) : NoSl I := by
  intro o i
  cases I <;> first | rfl | cases g
theorem snd_ixP (j : Nat) {i : Ex} (hi : Snd w i) : Snd w (.ixP j i) := by
  refine snd_plain rfl (fun _ => rfl) (fun kc E h => by cases E <;> first | rfl | cases h) fun {kc k X W E} c g h => ?_
  split at h
  · rename_i x px I pos
    rw [Bool.and_eq_true] at h
    have gi := ck_good h.2
    intro pv σa σ H G F Q st pp
    dsimp only [sm, Sm.of] at pp
    split at pp
    · rename_i q0 m0 em0
      obtain ⟨v0, ev, rm0, _⟩ := st.slot j _ em0
      cases m0 with
      | d x0 =>
        refine ofPE (pe_ix anyIx_ok (var_of c h.1) peW (good_ix gi)) ⟨v0, ev, hi.v c h.2 pv σa σ H G F _ st (Post.then pp fun q H1 G1 F1 _ _ z st1 y ry => ?_)⟩
        split at z
        · rename_i qb m em
          split at z
          · rename_i hk
            obtain ⟨d, e, z⟩ := z.ofO
            cases m with
            | d _ => cases e
            | k _ _ => cases hk
            | l _ => cases hk
          · exact z.elim
        · exact z.elim
      | l xs0 =>
        refine ofPE (pe_ix anyIx_ok (var_of c h.1) peW (good_ix gi)) ⟨v0, ev, hi.v c h.2 pv σa σ H G F _ st (Post.then pp fun q H1 G1 F1 _ _ z st1 y ry => ?_)⟩
        split at z
        · rename_i qb m em
          split at z
          · rename_i hk
            obtain ⟨d, e, z3⟩ := z.ofO
            cases m with
            | d _ => cases hk
            | k _ _ => cases hk
            | l xs =>
              obtain ⟨v1, ev1, rm, _⟩ := st1.slot j _ em
              rw [ev] at ev1
              cases ev1
              cases hq : q.1 <;> rw [hq] at e ry <;> try (cases e; done)
              rename_i ii
              generalize F1 j = ff at rm
              cases rm with
              | l ha rs _ =>
                have e' : (match atI xs ii with | some (.d x) => some x | _ => none) = some d := e
                split at e'
                · rename_i x ex
                  cases e'
                  unfold atI at ex
                  cases ej : ixN xs.length ii with
                  | none => rw [ej] at ex; cases ex
                  | some jj =>
                    rw [ej] at ex
                    obtain ⟨v, hv, rv⟩ := rs.get (show xs[jj]? = some (.d d) from ex)
                    refine ⟨_, ix_list, _, _, _, v, rfl, ry.int_inv, .inl (.inl ha), ?_, z3.here st1 v rv⟩
                    unfold atI
                    rw [rs.length, ej]
                    exact hv
                · cases e'
          · exact z.elim
        · exact z.elim
      | k t0 kv0 =>
        have hu : X.A.units + 1 < cLine := by have := c.room.un; omega
        refine ofPE (pe_dget hu (var_of c h.1) peW (good_noSl gi)) ⟨v0, ev, hi.v c h.2 pv σa σ H G F _ st (Post.then pp fun q H1 G1 F1 _ _ z st1 y ry => ?_)⟩
        split at z
        · rename_i qb m em
          split at z
          · rename_i hk
            obtain ⟨d, e, z3⟩ := z.ofO
            cases m with
            | d _ => cases hk
            | l _ => cases hk
            | k t kvs =>
              obtain ⟨v1, ev1, rm, _⟩ := st1.slot j _ em
              rw [ev] at ev1
              cases ev1
              generalize F1 j = ff at rm
              cases rm with
              | k ha rs _ =>
                have e0 : (if isKey q.1 then (match getK q.1 kvs with | some (.d x) => some x | _ => none) else none) = some d := e
                split at e0
                · rename_i hk1
                  obtain ⟨kk, ek⟩ := isKey_keyD hk1
                  rw [ek] at e0 ry
                  split at e0
                  · rename_i x ex
                    cases e0
                    obtain ⟨v, hv, rv⟩ := rs.key ex
                    rw [ry.key_inv]
                    have dg := DGet.k (k := kk) ha
                    rw [hv] at dg
                    exact ⟨_, v, rfl, dg, z3.here st1 v rv⟩
                  · cases e0
                · cases e0
          · exact z.elim
        · exact z.elim
    · exact pp.elim
  · cases h
theorem tupsO_cons {xs r : List PyData} {ks : List (List Int)} (h : tupsO (.tuple xs :: r) = some ks) : ∃ ns ls, ks = ns :: ls ∧ intsO xs = some ns ∧ tupsO r = some ls := by
  unfold tupsO at h
  obtain ⟨ns, e1, e2⟩ := Option.bind_eq_some_iff.mp h
  cases e3 : tupsO r with
  | none => rw [e3] at e2; cases e2
  | some ls => rw [e3] at e2; cases e2; exact ⟨ns, ls, rfl, e1, rfl⟩
/-- the addresses of the tuples -/
theorem tups_at {K : PySem.W.Frag} {G : Hp} : ∀ {vs : List V} {xs : List PyData} {ks : List (List Int)}, RpAll K G vs xs → tupsO xs = some ks → ∃ as : List (Addr × List Int), vs = as.map (fun p => V.ref p.1) ∧ as.map (·.2) = ks ∧ ∀ p ∈ as, SqT K G p.1 (p.2.map V.int)
  | _, [], _, .nil, h => by cases h; exact ⟨[], rfl, rfl, fun p m => by cases m⟩
  | _, x :: xs, ks, .cons r rs, h => by
    cases x with
    | tuple ys =>
      obtain ⟨ns, ls, rfl, e1, e2⟩ := tupsO_cons h
      obtain ⟨as, h1, h2, h3⟩ := tups_at rs e2
      obtain ⟨a, us, rfl, st, ru⟩ := r.tup_inv
      rw [intsO_some e1] at ru
      rw [rpInts ru] at st
      refine ⟨(a, ns) :: as, by rw [h1]; rfl, by rw [List.map_cons, h2], fun p m => ?_⟩
      rcases List.mem_cons.mp m with rfl | m
      · exact st
      · exact h3 p m
    | _ => cases h
theorem nub_mem {k : List Int} : ∀ {l : List (List Int)}, k ∈ nub l ↔ k ∈ l
  | [] => Iff.rfl
  | x :: xs => by
    unfold nub
    split
    · rename_i h
      rw [nub_mem, List.mem_cons]
      constructor
      · exact .inr
      · rintro (rfl | z)
        · exact h
        · exact z
    · rw [List.mem_cons, List.mem_cons, nub_mem]
theorem nub_nodup : ∀ l : List (List Int), (nub l).Nodup
  | [] => List.nodup_nil
  | x :: xs => by
    unfold nub
    split
    · exact nub_nodup xs
    · rename_i h
      exact List.nodup_cons.mpr ⟨fun m => h (nub_mem.mp m), nub_nodup xs⟩
theorem nodup_le : ∀ {l m : List (List Int)}, l.Nodup → (∀ x ∈ l, x ∈ m) → l.length ≤ m.length
  | [], _, _, _ => Nat.zero_le _
  | x :: l, m, nd, h => by
    obtain ⟨n1, n2⟩ := List.nodup_cons.mp nd
    have hx : x ∈ m := h x (List.mem_cons_self ..)
    have := nodup_le (m := m.erase x) n2 fun y hy => (List.mem_erase_of_ne (fun e : y = x => n1 (by rw [← e]; exact hy))).mpr (h y (List.mem_cons_of_mem _ hy))
    rw [List.length_erase_of_mem hx] at this
    have := List.length_pos_of_mem hx
    rw [List.length_cons]
    omega
/-- len of a set of tuples of ints -/
def rLenT (P : Program) (w : World) : List V → Hp → VK → Prop := fun xs H Q => ∃ (a : Addr) (L : List (Addr × List Int)), xs = [V.ref a] ∧ H a = some (SetTO P w a L) ∧ ((L.map (·.2)).Nodup → Q (.int (L.length : Nat)) H)
theorem cr_lenT {X : Cx} : CallR X (.builtin "len") (rLenT X.prog X.w) := by
  intro pins s σ H xs us Q I r h
  obtain ⟨a, L, rfl, ha, q⟩ := h
  rw [Vals.ref1 r]
  have ok := I.hok a _ ha
  obtain ⟨⟨es, ep, t, ⟨o, ho, hex, hd⟩, rows, tab, nd, pl, led, room, few⟩⟩ := ok.1
  have sz : es.size = L.length := by
    have e := congrArg List.length rows
    unfold rowsOf at e
    rw [Array.length_toList, List.length_map] at e
    exact e
  have fits : t.fits es.size = true := by
    have e := tab.sz
    rw [List.length_map] at e
    unfold SetTable.fits SetTable.fill
    rw [tab.dm, Bool.and_eq_true, beq_iff_eq, decide_eq_true_eq]
    show t.place.size = es.size ∧ t.place.size + 0 ≤ t.mask
    omega
  refine call_len_set ho hex hd fits (by rw [sz]; omega) ⟨.int (L.length : Nat), H, I.tok _, ⟨_, by rw [sz]⟩, q nd⟩
/-- sorted(x, reverse=True), sorted(set(x)) -/
theorem snd_spc (s : Spc) {a : Ex} (ha : Snd w a) : Snd w (.spc s a) := by
  refine snd_plain rfl (fun _ => rfl) (fun kc E h => by cases s <;> cases E <;> first | rfl | cases h) fun {kc k X W E} c g h => ?_
  split at h
  · rename_i x p A y j1 kp kpos pos
    simp only [Bool.and_eq_true, decide_eq_true_eq] at h
    obtain ⟨⟨h1, h2, h3⟩, h4⟩ := h
    subst h1
    subst h3
    obtain ⟨gx, ok⟩ := gl_of c h2
    have gA := ck_good h4
    intro pv σa σ H G F Q st pp
    have hs : ∀ pos : Pos, backTo pos (starEach [A] X.env) = (false, eval A X.env) :: backTo pos (starEach [] X.env) := fun pos => by rw [good_star gA]; rfl
    refine ofPE (pe_callBK (ks := [Str.ofString "reverse"]) (cr_sortedRev (b := true)) gx (c.mgs.blt _ (by decide +kernel)) (by decide +kernel) (pa_cons peW pa_nil (good_star gA)) (pk_cons pe_bl pk_nil) (by decide +kernel) (by decide +kernel) (hs _) (by rw [good_star gA]; rfl) rfl rfl rfl)
      (ha.v c h4 pv σa σ H G F _ st (Post.then pp fun q H1 G1 F1 _ _ z st1 v rv => ?_))
    obtain ⟨d, e, z⟩ := z.ofO
    unfold spcD at e
    split at e <;> try (cases e; done)
    · rename_i xs _ hq
      cases ei : intsO xs with
      | none => rw [ei] at e; cases e
      | some ns =>
        rw [ei] at e
        cases e
        rw [hq] at rv
        obtain ⟨l, us, rfl, sl, ru⟩ := rv.lst_inv
        rw [intsO_some ei] at ru
        rw [rpInts ru] at sl
        refine ⟨l, ns, rfl, rfl, by rw [c.hK]; exact st1.sub.sqL sl, fun ms p' pm le hp => ?_⟩
        have le : ms.Pairwise (· ≥ ·) := le
        have e2 : ms = (sortI ns).reverse := by
          have pr : ms.reverse = sortI ns := sorted_uniq ((ms.reverse_perm.trans pm).trans (sortI_perm ns).symm) (List.pairwise_reverse.mpr le) (sortI_le ns)
          rw [← pr, List.reverse_reverse]
        subst e2
        exact z _ _ _ (st1.alloc hp _).2 (st1.alloc hp _).1 _ (rpLst (st1.newNe hp).2.1 rpOfInts)
    · rename_i hq _; cases hq
    · rename_i hq _; cases hq
  · rename_i x p y py A ipos pos
    simp only [Bool.and_eq_true, decide_eq_true_eq] at h
    obtain ⟨⟨h1, h2, h3, h5⟩, h4⟩ := h
    subst h1
    subst h3
    obtain ⟨gx, ok⟩ := gl_of c h2
    obtain ⟨gy, oy⟩ := gl_of c h5
    have gA := ck_good h4
    intro pv σa σ H G F Q st pp
    have hu : X.A.units + 64 < cLine := by have := c.room.un; omega
    have inner := pe_callTy (p := py) (pos := ipos) (cr_setOfT c.calm hu) gy (c.mgs.blt _ (by decide +kernel)) (by decide +kernel) (pa_cons (peW (E := A)) pa_nil (good_star gA)) (by decide +kernel) (by decide +kernel) (good_star gA) rfl
    refine ofPE (pe_callB cr_lenT gx (c.mgs.blt _ (by decide +kernel)) (by decide +kernel) (pa_cons inner pa_nil rfl) (by decide +kernel) (by decide +kernel) rfl rfl)
      (ha.v c h4 pv σa σ H G F _ st (Post.then pp fun q H1 G1 F1 _ _ z st1 v rv => ?_))
    obtain ⟨d, e, z⟩ := z.ofO
    unfold spcD at e
    split at e <;> try (cases e; done)
    · rename_i hq _; cases hq
    · rename_i hq _; cases hq
    · rename_i xs _ hq
      cases ei : tupsO xs with
      | none => rw [ei] at e; cases e
      | some ks =>
        rw [ei] at e
        have e' : (if ks.length < 64 then some (PyData.int (nub ks).length) else none) = some d := e
        split at e'
        · rename_i hl
          cases e'
          rw [hq] at rv
          obtain ⟨l, us, rfl, sl, ru⟩ := rv.lst_inv
          obtain ⟨as, e1, e2, e3⟩ := tups_at ru ei
          subst e1
          refine ⟨l, as, rfl, by rw [c.hK]; exact st1.sub.sqL sl, fun p m => by rw [c.hK]; exact st1.sub.sqT (e3 p m), by rw [← e2, List.length_map] at hl; exact hl, fun b L hb i1 i2 => ?_⟩
          obtain ⟨st2, s2⟩ := st1.alloc hb (SetTO X.prog X.w b L)
          refine ⟨b, L, rfl, upd_same, fun nd => ?_⟩
          have el : L.length = (nub ks).length := by
            rw [← List.length_map (f := (·.2))]
            refine Nat.le_antisymm (nodup_le nd fun x m => ?_) (nodup_le (nub_nodup ks) fun x m => ?_)
            · obtain ⟨p, hp, rfl⟩ := List.mem_map.mp m
              rw [nub_mem, ← e2]
              exact List.mem_map_of_mem (i1 p hp)
            · rw [nub_mem, ← e2] at m
              obtain ⟨p, hp, rfl⟩ := List.mem_map.mp m
              exact i2 p hp
          rw [el]
          exact z _ _ _ s2 st2 _ (.int _)
        · cases e'
  · rename_i x p y py A ipos pos
    simp only [Bool.and_eq_true, decide_eq_true_eq] at h
    obtain ⟨⟨h1, h2, h3, h5⟩, h4⟩ := h
    subst h1
    subst h3
    obtain ⟨gx, ok⟩ := gl_of c h2
    obtain ⟨gy, oy⟩ := gl_of c h5
    have gA := ck_good h4
    intro pv σa σ H G F Q st pp
    have inner := pe_callTy (p := py) (pos := ipos) (cr_setL c.calm) gy (c.mgs.blt _ (by decide +kernel)) (by decide +kernel) (pa_cons (peW (E := A)) pa_nil (good_star gA)) (by decide +kernel) (by decide +kernel) (good_star gA) rfl
    refine ofPE (pe_callB (cr_sortedSet c.calm) gx (c.mgs.blt _ (by decide +kernel)) (by decide +kernel) (pa_cons inner pa_nil rfl) (by decide +kernel) (by decide +kernel) rfl rfl)
      (ha.v c h4 pv σa σ H G F _ st (Post.then pp fun q H1 G1 F1 _ _ z st1 v rv => ?_))
    obtain ⟨d, e, z⟩ := z.ofO
    unfold spcD at e
    split at e <;> try (cases e; done)
    · rename_i hq _; cases hq
    · rename_i xs _ hq
      cases ei : intsO xs with
      | none => rw [ei] at e; cases e
      | some ns =>
        rw [ei] at e
        have e' : (if ns.length < 64 then some (PyData.list ((usort ns).map .int)) else none) = some d := e
        split at e'
        · rename_i hl
          cases e'
          rw [hq] at rv
          obtain ⟨l, us, rfl, sl, ru⟩ := rv.lst_inv
          rw [intsO_some ei] at ru
          rw [rpInts ru] at sl
          refine ⟨l, ns, rfl, by rw [c.hK]; exact st1.sub.sqL sl, hl, fun b n hb hn => ?_⟩
          obtain ⟨st2, s2⟩ := st1.alloc hb (SetO X.w b (fun j => decide (j ∈ ns)) n)
          refine ⟨b, _, n, rfl, upd_same, by omega, fun ms p' lt hm _ hp => ?_⟩
          have e2 : ms = usort ns := asc_uniq lt (usort_lt ns) fun k => by rw [hm k, usort_mem]; simp
          subst e2
          exact z _ _ _ (s2.trans (st2.alloc hp _).2) (st2.alloc hp _).1 _ (rpLst (st2.newNe hp).2.1 rpOfInts)
        · cases e'
    · rename_i hq _; cases hq
  · cases h
theorem shp_all : ∀ {ds : List PyData}, ds.all SeqAt.shaped = true → PyData.canLayAll0 ds = true ∧ PyData.depthAll ds ≤ 64
  | [], _ => ⟨rfl, Nat.zero_le _⟩
  | d :: ds, h => by
    rw [List.all_cons, Bool.and_eq_true] at h
    obtain ⟨i1, i2⟩ := shp_all h.2
    refine ⟨by rw [PyData.canLayAll0, SeqAt.canLay_of_shaped h.1, i1]; rfl, ?_⟩
    rw [PyData.depthAll]
    exact Nat.max_le.mpr ⟨SeqAt.depth_of_shaped h.1, i2⟩
theorem datM_some : ∀ {xs : List Mu} {ds : List PyData}, datM xs = some ds → xs = ds.map .d
  | [], _, h => by cases h; rfl
  | m :: r, ds, h => by
    unfold datM at h
    cases m with
    | d y =>
      have h2 : (datM r).map (y :: ·) = some ds := h
      cases e : datM r with
      | none => rw [e] at h2; cases h2
      | some es =>
        rw [e] at h2
        cases h2
        rw [datM_some e]
        rfl
    | l _ => cases h
    | k _ _ => cases h
theorem RMs.toRp {K : PySem.W.Frag} {H G : Hp} : ∀ {vs : List V} {ds : List PyData} {f : List Addr}, RMs K H G vs (ds.map .d) f → RpAll K G vs ds
  | _, [], _, .nil => .nil
  | _, _ :: _, _, .cons r t _ => by
    cases r with
    | d r => exact .cons r (RMs.toRp t)
/-- x in a list of one's own -/
theorem inP_core (j : Nat) {a : Ex} (ha : Snd w a) {A : Expr} {y : Str} {py : Pos} (c : Cok w kc k X W) (h1 : kc.var j y = true) (h2 : (ck a).e kc A = true) {Q : VK} (st : StOk w pv σa σ H G F)
    (pp : Post w H G F ((sm w.P.C (callF w.P k) (.inP j a)).v σa) (fun q H' G' F' => StOk w pv q.2 σ H' G' F' → ∀ d, q.1 = .bool d → Q (.bl d) H') (KX w W σ)) : WpE X A σ H fun x H1 => ∃ v, σ[j]? = some (some v) ∧ rInD X.K x v H1 Q := by
  refine ha.v c h2 pv σa σ H G F _ st (Post.then pp fun q H1 G1 F1 _ _ z st1 v rv => ?_)
  split at z
  · rename_i q0 m0 em
    obtain ⟨b, e, z2⟩ := z.ofO
    obtain ⟨v0, ev, rm0, _⟩ := st1.slot j _ em
    cases m0 with
    | d _ => cases e
    | k _ _ => cases e
    | l xs =>
      have e2 : ((datM xs).bind fun ds => if (SeqAt.shaped q.1 && SeqAt.shaped (.list ds)) = true then some (ds.any fun y => PyData.eqv y q.1) else none) = some b := e
      cases ed : datM xs with
      | none => rw [ed] at e2; cases e2
      | some ds =>
        rw [ed] at e2
        have e3 : (if (SeqAt.shaped q.1 && SeqAt.shaped (.list ds)) = true then some (ds.any fun y => PyData.eqv y q.1) else none) = some b := e2
        split at e3
        · rename_i hs
          rw [Bool.and_eq_true] at hs
          cases e3
          have exs := datM_some ed
          subst exs
          generalize F1 j = ff at rm0
          cases rm0 with
          | l hl rs _ =>
            refine ⟨_, ev, q.1, ds, ?_, ?_, hs.1, hs.2, z2 _ _ _ (Step.refl w H1 G1 F1) st1 _ rfl⟩
            · rw [c.hK]; exact (rv.mono st1.sub).dp (shp_lay hs.1)
            · refine .lst (.inl (.inl hl)) ?_
              rw [c.hK]
              exact (rs.toRp.mono st1.sub).dp (by have := shp_lay hs.2; simpa [PyData.canLay0] using this)
        · cases e3
  · exact z.elim
theorem snd_inP (j : Nat) {a : Ex} (ha : Snd w a) : Snd w (.inP j a) := by
  refine snd_of rfl (fun {kc k X W E} c g h => ?_) (fun {kc k X W E} c g h => ?_)
  · split at h
    · rename_i A y py pos
      simp only [Bool.and_eq_true] at h
      obtain ⟨h1, h2⟩ := h
      have hu : X.A.units + 65 < cLine := by have := c.room.un; omega
      intro pv σa σ H G F Q st p
      exact ofPE (pe_cmpR (op_inD hu) peW (var_of c h1) rfl) (inP_core j ha (py := py) c h1 h2 st (p.imp (fun q H' G' F' _ _ z st' d e => z st' _ (by rw [e]; exact .bl d)) fun _ _ z => z))
    · cases h
  · split at h
    · rename_i A y py pos
      simp only [Bool.and_eq_true] at h
      obtain ⟨h1, h2⟩ := h
      have hu : X.A.units + 65 < cLine := by have := c.room.un; omega
      intro pv σa σ H G F Q st p
      refine ofPT (pt_cmpR (op_inD hu) peW (var_of c h1) rfl) (inP_core j ha (py := py) c h1 h2 st (Post.then p fun q H' G' F' _ _ z st' d e => ?_))
      refine ⟨d, rfl, ?_⟩
      rw [e] at z
      exact z.here st'
    · cases h
theorem keys_rm {K : PySem.W.Frag} {H G : Hp} : ∀ {vs : List (Key × V)} {kvs : List (D × Mu)} {f : List Addr} {ns : List Int}, RMk K H G vs kvs f → keysI kvs = some ns → vs.map (·.1) = ns.map Sum.inl
  | _, _, _, ns, .nil, h => by cases h; rfl
  | _, _, _, ns, .cons (k := kk) _ t _, h => by
    unfold keysI at h
    cases kk with
    | inl i =>
      have h2 : (keysI _).map (i :: ·) = some ns := h
      cases e : keysI _ with
      | none => rw [e] at h2; cases h2
      | some ms =>
        rw [e] at h2
        cases h2
        exact congrArg (List.cons (Sum.inl i)) (keys_rm t e)
    | inr s => cases h
/-- sorted(d), d a dict of its own with ints as keys -/
theorem snd_srtK (j : Nat) : Snd w (.srtK j) := by
  refine snd_plain rfl (fun _ => rfl) (fun kc E h => by cases E <;> first | rfl | cases h) fun {kc k X W E} c g h => ?_
  split at h
  · rename_i x px y py pos
    simp only [Bool.and_eq_true, decide_eq_true_eq] at h
    obtain ⟨h1, h2, h3⟩ := h
    subst h1
    obtain ⟨gx, ok⟩ := gl_of c h2
    intro pv σa σ H G F Q st pp
    dsimp only [sm, Sm.of] at pp
    split at pp
    · rename_i q0 m0 em0
      obtain ⟨ns, e, z⟩ := pp.ofO
      split at z
      · rename_i hl
        obtain ⟨v0, ev, rm0, _⟩ := st.slot j _ em0
        cases m0 with
        | d _ => cases e
        | l _ => cases e
        | k fz kvs =>
          generalize F j = ff at rm0
          cases rm0 with
          | k ha rs _ =>
            refine ofPE (pe_callB (call_sortedDI c.calm) gx (c.mgs.blt _ (by decide +kernel)) (by decide +kernel) (pa_cons (var_of c h3) pa_nil rfl) (by decide +kernel) (by decide +kernel) rfl rfl) ⟨_, ev, _, _, ns, rfl, .inl ha, keys_rm rs e, hl, fun ys p pm le hp => ?_⟩
            have e2 : ys = sortI ns := sorted_uniq (pm.trans (sortI_perm ns).symm) le (sortI_le ns)
            subst e2
            exact z _ _ _ (st.alloc hp _).2 (st.alloc hp _).1 _ (rpLst (st.newNe hp).2.1 rpOfInts)
      · exact z.elim
    · exact pp.elim
  · cases h
theorem snd_lenP (j : Nat) : Snd w (.lenP j) := by
  refine snd_plain rfl (fun _ => rfl) (fun kc E h => by cases E <;> first | rfl | cases h) fun {kc k X W E} c g h => ?_
  split at h
  · rename_i x px y py pos
    simp only [Bool.and_eq_true, decide_eq_true_eq] at h
    obtain ⟨h1, h2, h3⟩ := h
    subst h1
    obtain ⟨gx, ok⟩ := gl_of c h2
    intro pv σa σ H G F Q st pp
    dsimp only [sm, Sm.of] at pp
    split at pp
    · rename_i q0 m0 em0
      obtain ⟨n, e, pp⟩ := pp.ofO
      obtain ⟨v0, ev, rm0, _⟩ := st.slot j _ em0
      cases m0 with
      | d _ => cases e
      | k _ _ => cases e
      | l xs =>
        cases e
        generalize F j = ff at rm0
        cases rm0 with
        | l ha rs _ =>
          refine ofPE (pe_callB call_len gx (c.mgs.blt _ (by decide +kernel)) (by decide +kernel) (pa_cons (var_of c h3) pa_nil rfl) (by decide +kernel) (by decide +kernel) rfl rfl) ⟨_, ev, _, _, rfl, .inl ⟨_, .inl (.inl ha), rfl⟩, ?_⟩
          rw [rs.length]
          exact pp.here st _ (.int _)
    · exact pp.elim
  · cases h
end
end N
/-! NZ1: enumerate(zip(..)): zip's own tuple is handed out once and kept, so zip makes a new tuple at each later turn. -/
namespace N
open PySem PySem.Spec PyProof.Rows L2
/-- a zip object whatever it has handed out -/
abbrev Zq (h : Heap) (z TI TO : Addr) (f0 f1 : Value) : Prop :=
  h.get? z = some { cls := .type "zip", dict := none, data := .fields #[f0, f1, .bool false, .ref TI, .ref TO], slots := #[] }
def Fq (f0 : Value) : Prop := f0 = .none ∨ ∃ n, f0 = .int n 0
section
variable {prog : Program} {w : World} {A : Around} {E : Value → Shared → Prop} {s : Shared}
theorem wp_alive {a : Addr} {Q : Option Obj → Shared → Prop} (h : Q (s.heap.get? a) s) : wpAny (model prog w) A (loadIfAlive a) Q E s := fun _ _ _ => h
/-- whether the tuple is free, both answers owed -/
theorem zq_free {z TI TO : Addr} {f0 f1 : Value} {Q : Bool → Shared → Prop} (hz : Zq s.heap z TI TO f0 f1) (hf : Fq f0)
    (h1 : Q true s) (h2 : ∀ h' f1', Zq h' z TI TO f0 f1' → Heap.SameBut z s.heap h' → Q false { s with heap := h' }) : wpAny (model prog w) A (Builtin.SmallTypes.ownedTupleIsFree (.ref z)) Q E s := by
  unfold Builtin.SmallTypes.ownedTupleIsFree
  rcases hf with rfl | ⟨n, rfl⟩
  · refine wpAny_bind (wpAny_field hz rfl (x := Value.none) rfl (wpAny_pure h1))
  · refine wpAny_bind (wpAny_field hz rfl (x := Value.int n 0) rfl ?_)
    refine wpAny_bind (wp_alive ?_)
    cases e : s.heap.get? n.toNat with
    | none => exact wpAny_pure h1
    | some o =>
      simp only [Option.isNone_some, Bool.false_eq_true, if_false]
      refine wpAny_bind (wpAny_field hz rfl (x := f1) rfl ?_)
      by_cases hb : (f1 != Value.bool true) = true
      · simp only [hb, if_true]
        refine wpAny_bind (wpAny_setField_rec hz (by simp) fun h' hz' hs' => ?_)
        exact wpAny_pure (h2 h' _ hz' hs')
      · simp only [hb, if_false]
        exact wpAny_pure (h2 s.heap f1 hz ⟨rfl, fun _ _ => rfl⟩)

variable {z TI TO i1 i2 : Addr} {fp1 fp2 : List Addr} {n1 n2 i : Nat} {P1 P2 : Nat → Value → Prop} {St1 St2 : Nat → Heap → Prop} {a1 a2 : Value} {f0 f1 : Value}
/-- what stands behind a turn -/
def ZqK (s : Shared) (z TI TO i1 i2 : Addr) (P1 P2 : Nat → Value → Prop) (St1 St2 : Nat → Heap → Prop) (i : Nat) (Q : Value → Shared → Prop) : Prop :=
  ∀ x1 x2 h' tk f0' f1', P1 i x1 → P2 i x2 → Zq h' z TI TO f0' f1' → Fq f0' → (∃ b1 b2, IsTupOf2 h' TO b1 b2) → St1 (i + 1) h' → St2 (i + 1) h' → IsTupOf2 h' s.heap.objs.size x1 x2 → h'.objs.size = s.heap.objs.size + 1 →
    (∀ c o, c ≠ z → c ≠ TO → c ≠ i1 → c ≠ i2 → s.heap.get? c = some o → h'.get? c = some o) → Q (.ref s.heap.objs.size) { s with heap := h', toks := tk }
theorem zq_item {Q : Value → Shared → Prop} (S : ZipSep2 z TI TO i1 i2 fp1 fp2) (D1 : Draws prog w A i1 fp1 n1 P1 St1) (D2 : Draws prog w A i2 fp2 n2 P2 St2)
    (hz : Zq s.heap z TI TO f0 f1) (hf : Fq f0) (hTI : IsTupOf2 s.heap TI (.ref i1) (.ref i2)) (hTO : IsTupOf2 s.heap TO a1 a2) (st1 : St1 i s.heap) (st2 : St2 i s.heap) (lt1 : i < n1) (lt2 : i < n2)
    (k : ZqK s z TI TO i1 i2 P1 P2 St1 St2 i Q) :
    wpAny (model prog w) A (Builtin.«zip.__next__» ⟨[.ref z], []⟩) (fun fin s' => ∃ v, fin = .done (.ret v) ∧ Q v s') E s := by
  obtain ⟨hp, g, d, t0, os⟩ := s
  show wpAny _ _ (field (.ref z) 2 >>= _) _ _ _
  refine wpAny_bind (wpAny_field hz rfl (x := .bool false) rfl ?_)
  show wpAny _ _ (field (.ref z) 3 >>= _) _ _ _
  refine wpAny_bind (wpAny_field hz rfl (x := .ref TI) rfl ?_)
  refine wpAny_bind (wpAny_seqItems hTI rfl ?_)
  show wpAny _ _ (Builtin.SmallTypes.ownedTupleIsFree (.ref z) >>= _) _ _ _
  refine wpAny_bind (zq_free hz hf ?_ fun h0 f1' hz0 hs0 => ?_)
  · simp only [if_true]
    refine wpAny_bind (wpAny_rule ?_)
    refine wpAny_bind (wpAny_field hz rfl (x := .ref TO) rfl ?_)
    refine wpAny_bind (wpAny_setField_rec hz (by simp) fun g0 hz0 hs0 => ?_)
    replace hz0 : Zq g0 z TI TO .ellipsis f1 := hz0
    replace hs0 : Heap.SameBut z hp g0 := hs0
    refine wpAny_bind ?_
    simp only [List.zipIdx_cons, List.zipIdx_nil, List.forIn_cons, List.forIn_nil]
    refine wpAny_bind (wpAny_bind (wpAny_onRaise ?_))
    show wpAny _ _ (Builtin.SmallTypes.nextOf (.ref i1) >>= _) _ _ ⟨g0, g, d, t0, os⟩
    refine wpAny_bind (D1.item i _ _ _ lt1 (D1.over st1 hs0 S.zf1) fun x1 p1 tk1 hx1 sn1 hp1 => wpAny_pure ?_)
    replace hp1 : Heap.SameBut i1 g0 p1 := hp1
    have u1 : IsTupOf2 p1 TO a1 a2 := hp1.extBut _ _ S.Ti1 (hs0.extBut _ _ S.TOz hTO)
    refine wpAny_bind (wpAny_seqItems (s := ⟨p1, g, d, tk1, os⟩) u1 rfl ?_)
    refine wpAny_bind (updateSeq_IsTupOf2 (s := ⟨p1, g, d, tk1, os⟩) u1 fun g1 t1 hs1 => ?_)
    replace t1 : IsTupOf2 g1 TO x1 a2 := t1
    replace hs1 : Heap.SameBut TO p1 g1 := hs1
    refine wpAny_bind (wpAny_letGo (wpAny_pure ?_))
    refine wpAny_bind (wpAny_bind (wpAny_onRaise ?_))
    show wpAny _ _ (Builtin.SmallTypes.nextOf (.ref i2) >>= _) _ _ ⟨g1, g, d, tk1, os⟩
    refine wpAny_bind (D2.item i _ _ _ lt2 (D2.over (D2.over (D2.over st2 hs0 S.zf2) hp1 S.sep1_2) hs1 S.Tf2) fun x2 p2 tk2 hx2 sn2 hp2 => wpAny_pure ?_)
    replace hp2 : Heap.SameBut i2 g1 p2 := hp2
    have u2 : IsTupOf2 p2 TO x1 a2 := hp2.extBut _ _ S.Ti2 t1
    refine wpAny_bind (wpAny_seqItems (s := ⟨p2, g, d, tk2, os⟩) u2 rfl ?_)
    refine wpAny_bind (updateSeq_IsTupOf2 (s := ⟨p2, g, d, tk2, os⟩) u2 fun g2 t2 hs2 => ?_)
    replace t2 : IsTupOf2 g2 TO x1 x2 := t2
    replace hs2 : Heap.SameBut TO p2 g2 := hs2
    refine wpAny_bind (wpAny_letGo (wpAny_pure (wpAny_pure ?_)))
    refine wpAny_bind (wpAny_seqItems (s := ⟨g2, g, d, tk2, os⟩) t2 rfl ?_)
    refine wpAny_bind (wpAny_newTuple ?_)
    have sz : g2.objs.size = hp.objs.size := by rw [hs2.1, hp2.1, hs1.1, hp1.1, hs0.1]
    have zz : Zq g2 z TI TO .ellipsis f1 := hs2.extBut _ _ S.TOz.symm (hp2.extBut _ _ S.zi2 (hs1.extBut _ _ S.TOz.symm (hp1.extBut _ _ S.zi1 hz0)))
    have kk : ∀ c o, c ≠ z → c ≠ TO → c ≠ i1 → c ≠ i2 → hp.get? c = some o → g2.get? c = some o := fun c o cz cT c1 c2 e =>
      hs2.extBut _ _ cT (hp2.extBut _ _ c2 (hs1.extBut _ _ cT (hp1.extBut _ _ c1 (hs0.extBut _ _ cz e))))
    have j1 : St1 (i + 1) g2 := D1.over (D1.over (D1.over sn1 hs1 S.Tf1) hp2 S.sep2_1) hs2 S.Tf1
    have j2 : St2 (i + 1) g2 := D2.over sn2 hs2 S.Tf2
    have zl : z < g2.objs.size := Heap.lt_size zz
    show wpAny _ _ (Builtin.SmallTypes.ownedTupleHandOut (.ref z) (.ref g2.objs.size) >>= _) _ _ ⟨g2.push { cls := .type "tuple", data := .seq #[x1, x2] }, g, d, tk2, os⟩
    refine wpAny_bind ?_
    unfold Builtin.SmallTypes.ownedTupleHandOut
    have z6 : Zq (g2.push { cls := .type "tuple", data := .seq #[x1, x2] }) z TI TO .ellipsis f1 := Heap.get?_push_of_some _ zz
    refine wpAny_bind (wpAny_setField_rec z6 (by simp) fun h7 z7 s7 => ?_)
    replace z7 : Zq h7 z TI TO (rawInt g2.objs.size) f1 := z7
    refine wpAny_setField_rec z7 (by simp) fun h8 z8 s8 => ?_
    replace z8 : Zq h8 z TI TO (rawInt g2.objs.size) (.bool false) := z8
    replace s7 : Heap.SameBut z (g2.push { cls := .type "tuple", data := .seq #[x1, x2] }) h7 := s7
    replace s8 : Heap.SameBut z h7 h8 := s8
    have up : ∀ c o, c ≠ z → g2.get? c = some o → h8.get? c = some o := fun c o c1 e => s8.extBut _ _ c1 (s7.extBut _ _ c1 (Heap.get?_push_of_some _ e))
    have t8 : IsTupOf2 h8 g2.objs.size x1 x2 := s8.extBut _ _ (Nat.ne_of_gt zl) (s7.extBut _ _ (Nat.ne_of_gt zl) (Heap.get?_push_size _ rfl))
    have w8 : h8.objs.size = g2.objs.size + 1 := by rw [s8.1, s7.1, Heap.size_push]
    rw [sz] at z8 t8 w8
    refine wpAny_pure ⟨_, rfl, ?_⟩
    show Q (.ref g2.objs.size) ⟨h8, g, d, tk2, os⟩
    rw [sz]
    exact k x1 x2 h8 tk2 _ _ hx1 hx2 z8 (.inr ⟨_, rfl⟩) ⟨_, _, up _ _ S.TOz t2⟩ (D1.frame _ _ _ j1 fun b hb o e => up b o (fun q => S.zf1 (q ▸ hb)) e) (D2.frame _ _ _ j2 fun b hb o e => up b o (fun q => S.zf2 (q ▸ hb)) e) t8 w8 fun c o cz cT c1 c2 e => up c o cz (kk c o cz cT c1 c2 e)
  · replace hs0 : Heap.SameBut z hp h0 := hs0
    simp only [Bool.false_eq_true, if_false]
    refine wpAny_bind ?_
    simp only [List.forIn_cons, List.forIn_nil, ← Array.forIn_toList]
    refine wpAny_bind (wpAny_bind (wpAny_holding ?_))
    show wpAny _ _ (Builtin.SmallTypes.nextOf (.ref i1) >>= _) _ _ ⟨h0, g, d, t0, os⟩
    refine wpAny_bind (D1.item i _ _ _ lt1 (D1.over st1 hs0 S.zf1) fun x1 p1 tk1 hx1 sn1 hp1 => wpAny_pure (wpAny_pure ?_))
    replace hp1 : Heap.SameBut i1 h0 p1 := hp1
    refine wpAny_bind (wpAny_bind (wpAny_holding ?_))
    show wpAny _ _ (Builtin.SmallTypes.nextOf (.ref i2) >>= _) _ _ ⟨p1, g, d, tk1, os⟩
    refine wpAny_bind (D2.item i _ _ _ lt2 (D2.over (D2.over st2 hs0 S.zf2) hp1 S.sep1_2) fun x2 p2 tk2 hx2 sn2 hp2 => wpAny_pure (wpAny_pure (wpAny_pure ?_)))
    replace hp2 : Heap.SameBut i2 p1 p2 := hp2
    have sz : p2.objs.size = hp.objs.size := by rw [hp2.1, hp1.1, hs0.1]
    have kk : ∀ c o, c ≠ z → c ≠ i1 → c ≠ i2 → hp.get? c = some o → p2.get? c = some o := fun c o cz c1 c2 e => hp2.extBut _ _ c2 (hp1.extBut _ _ c1 (hs0.extBut _ _ cz e))
    have zz : Zq p2 z TI TO f0 f1' := hp2.extBut _ _ S.zi2 (hp1.extBut _ _ S.zi1 hz0)
    have j1 : St1 (i + 1) p2 := D1.over sn1 hp2 S.sep2_1
    show wpAny _ _ (newTuple [x1, x2] >>= _) _ _ ⟨p2, g, d, tk2, os⟩
    refine wpAny_bind (wpAny_newTuple (wpAny_pure ⟨_, rfl, ?_⟩))
    show Q (.ref p2.objs.size) ⟨p2.push { cls := .type "tuple", data := .seq #[x1, x2] }, g, d, tk2, os⟩
    have pu : ∀ c o, p2.get? c = some o → (p2.push { cls := .type "tuple", data := .seq #[x1, x2] }).get? c = some o := fun c o e => Heap.get?_push_of_some _ e
    have t8 : IsTupOf2 (p2.push { cls := .type "tuple", data := .seq #[x1, x2] }) p2.objs.size x1 x2 := Heap.get?_push_size _ rfl
    have w8 : (p2.push { cls := .type "tuple", data := .seq #[x1, x2] }).objs.size = p2.objs.size + 1 := Heap.size_push ..
    rw [sz] at t8 w8
    rw [sz]
    exact k x1 x2 _ tk2 _ _ hx1 hx2 (pu _ _ zz) hf ⟨_, _, pu _ _ (kk _ _ S.TOz S.Ti1 S.Ti2 hTO)⟩ (D1.frame _ _ _ j1 fun b _ o e => pu b o e) (D2.frame _ _ _ sn2 fun b _ o e => pu b o e) t8 w8 fun c o cz _ c1 c2 e => pu c o (kk c o cz c1 c2 e)
theorem zq_end {Q : PySem.Fin → Shared → Prop} (S : ZipSep2 z TI TO i1 i2 fp1 fp2) (D1 : Draws prog w A i1 fp1 n1 P1 St1) (D2 : Draws prog w A i2 fp2 n2 P2 St2)
    (hz : Zq s.heap z TI TO f0 f1) (hf : Fq f0) (hTI : IsTupOf2 s.heap TI (.ref i1) (.ref i2)) (hTO : IsTupOf2 s.heap TO a1 a2) (st1 : St1 i s.heap) (st2 : St2 i s.heap) (le1 : i ≤ n1) (le2 : i ≤ n2) (fin : i = n1 ∨ i = n2)
    (k : ∀ h' tk e, (∀ c o, c ≠ z → c ≠ TO → c ≠ i1 → c ≠ i2 → s.heap.get? c = some o → h'.get? c = some o) → (∃ o, h'.get? e = some o ∧ o.cls = .type "StopIteration") → E (.ref e) { s with heap := h', toks := tk }) :
    wpAny (model prog w) A (Builtin.«zip.__next__» ⟨[.ref z], []⟩) Q E s := by
  obtain ⟨hp, g, d, t0, os⟩ := s
  show wpAny _ _ (field (.ref z) 2 >>= _) _ _ _
  refine wpAny_bind (wpAny_field hz rfl (x := .bool false) rfl ?_)
  show wpAny _ _ (field (.ref z) 3 >>= _) _ _ _
  refine wpAny_bind (wpAny_field hz rfl (x := .ref TI) rfl ?_)
  refine wpAny_bind (wpAny_seqItems hTI rfl ?_)
  show wpAny _ _ (Builtin.SmallTypes.ownedTupleIsFree (.ref z) >>= _) _ _ _
  refine wpAny_bind (zq_free hz hf ?_ fun h0 f1' hz0 hs0 => ?_)
  · simp only [if_true]
    refine wpAny_bind (wpAny_rule ?_)
    refine wpAny_bind (wpAny_field hz rfl (x := .ref TO) rfl ?_)
    refine wpAny_bind (wpAny_setField_rec hz (by simp) fun g0 hz0 hs0 => ?_)
    replace hz0 : Zq g0 z TI TO .ellipsis f1 := hz0
    replace hs0 : Heap.SameBut z hp g0 := hs0
    refine wpAny_bind ?_
    simp only [List.zipIdx_cons, List.zipIdx_nil, List.forIn_cons, List.forIn_nil]
    refine wpAny_bind (wpAny_bind (wpAny_onRaise ?_))
    show wpAny _ _ (Builtin.SmallTypes.nextOf (.ref i1) >>= _) _ _ ⟨g0, g, d, t0, os⟩
    by_cases lt1 : i < n1
    · refine wpAny_bind (D1.item i _ _ _ lt1 (D1.over st1 hs0 S.zf1) fun x1 p1 tk1 hx1 sn1 hp1 => wpAny_pure ?_)
      replace hp1 : Heap.SameBut i1 g0 p1 := hp1
      have u1 : IsTupOf2 p1 TO a1 a2 := hp1.extBut _ _ S.Ti1 (hs0.extBut _ _ S.TOz hTO)
      refine wpAny_bind (wpAny_seqItems (s := ⟨p1, g, d, tk1, os⟩) u1 rfl ?_)
      refine wpAny_bind (updateSeq_IsTupOf2 (s := ⟨p1, g, d, tk1, os⟩) u1 fun g1 t1 hs1 => ?_)
      replace hs1 : Heap.SameBut TO p1 g1 := hs1
      refine wpAny_bind (wpAny_letGo (wpAny_pure ?_))
      refine wpAny_bind (wpAny_bind (wpAny_onRaise ?_))
      show wpAny _ _ (Builtin.SmallTypes.nextOf (.ref i2) >>= _) _ _ ⟨g1, g, d, tk1, os⟩
      have e2 : i = n2 := by omega
      refine wpAny_bind (D2.done ⟨g1, g, d, tk1, os⟩ _ _ (by rw [← e2]; exact D2.over (D2.over (D2.over st2 hs0 S.zf2) hp1 S.sep1_2) hs1 S.Tf2) fun q e hq he => ?_)
      replace hq : Heap.ExtBut i2 g1 q := hq
      obtain ⟨oe, ge, ce⟩ := he
      replace ge : q.get? e = some oe := ge
      have zq : Zq q z TI TO .ellipsis f1 := hq _ _ S.zi2 (hs1.extBut _ _ S.TOz.symm (hp1.extBut _ _ S.zi1 hz0))
      have ne : e ≠ z := fun x => by subst x; rw [zq] at ge; cases ge; simp at ce
      refine wpAny_setField_rec (s := ⟨q, g, d, tk1, os⟩) zq (by simp) fun q' _ hq' => ?_
      replace hq' : Heap.SameBut z q q' := hq'
      exact k q' tk1 e (fun c o cz cT c1 c2 x => hq'.extBut _ _ cz (hq _ _ c2 (hs1.extBut _ _ cT (hp1.extBut _ _ c1 (hs0.extBut _ _ cz x))))) ⟨oe, hq'.extBut _ _ ne ge, ce⟩
    · have e1 : i = n1 := by omega
      refine wpAny_bind (D1.done ⟨g0, g, d, t0, os⟩ _ _ (by rw [← e1]; exact D1.over st1 hs0 S.zf1) fun q e hq he => ?_)
      replace hq : Heap.ExtBut i1 g0 q := hq
      obtain ⟨oe, ge, ce⟩ := he
      replace ge : q.get? e = some oe := ge
      have zq : Zq q z TI TO .ellipsis f1 := hq _ _ S.zi1 hz0
      have ne : e ≠ z := fun x => by subst x; rw [zq] at ge; cases ge; simp at ce
      refine wpAny_setField_rec (s := ⟨q, g, d, t0, os⟩) zq (by simp) fun q' _ hq' => ?_
      replace hq' : Heap.SameBut z q q' := hq'
      exact k q' t0 e (fun c o cz cT c1 c2 x => hq'.extBut _ _ cz (hq _ _ c1 (hs0.extBut _ _ cz x))) ⟨oe, hq'.extBut _ _ ne ge, ce⟩
  · replace hs0 : Heap.SameBut z hp h0 := hs0
    simp only [Bool.false_eq_true, if_false]
    refine wpAny_bind ?_
    simp only [List.forIn_cons, List.forIn_nil, ← Array.forIn_toList]
    refine wpAny_bind (wpAny_bind (wpAny_holding ?_))
    show wpAny _ _ (Builtin.SmallTypes.nextOf (.ref i1) >>= _) _ _ ⟨h0, g, d, t0, os⟩
    by_cases lt1 : i < n1
    · refine wpAny_bind (D1.item i _ _ _ lt1 (D1.over st1 hs0 S.zf1) fun x1 p1 tk1 hx1 sn1 hp1 => wpAny_pure (wpAny_pure ?_))
      replace hp1 : Heap.SameBut i1 h0 p1 := hp1
      refine wpAny_bind (wpAny_bind (wpAny_holding ?_))
      show wpAny _ _ (Builtin.SmallTypes.nextOf (.ref i2) >>= _) _ _ ⟨p1, g, d, tk1, os⟩
      have e2 : i = n2 := by omega
      refine wpAny_bind (D2.done ⟨p1, g, d, tk1, os⟩ _ _ (by rw [← e2]; exact D2.over (D2.over st2 hs0 S.zf2) hp1 S.sep1_2) fun q e hq he => ?_)
      replace hq : Heap.ExtBut i2 p1 q := hq
      exact k q tk1 e (fun c o cz cT c1 c2 x => hq _ _ c2 (hp1.extBut _ _ c1 (hs0.extBut _ _ cz x))) he
    · have e1 : i = n1 := by omega
      refine wpAny_bind (D1.done ⟨h0, g, d, t0, os⟩ _ _ (by rw [← e1]; exact D1.over st1 hs0 S.zf1) fun q e hq he => ?_)
      replace hq : Heap.ExtBut i1 h0 q := hq
      exact k q t0 e (fun c o cz cT c1 c2 x => hq _ _ c1 (hs0.extBut _ _ cz x)) he
end
end N
/-! NZ2: zip and enumerate over lists, tuples and texts; enumerate over zip: the beginnings. -/
namespace N
open PySem PySem.Spec PyProof.Rows L2
open AutoSeq1 (wpAny_loadPart')
abbrev enNew (h : Heap) (it : Addr) : Heap := h.push { cls := .type "enumerate", data := .fields #[.none, .bool false, .ref it, rawInt 0, .none, .none] }
/-- what is walked: a list, a tuple, a text -/
inductive SK where
  | lst (a : Addr) | tup (a : Addr) | txt (x : Str) (t : Tok)
def SK.val : SK → Value
  | .lst a => .ref a
  | .tup a => .ref a
  | .txt x t => .str x t
def SK.ob : SK → Obj
  | .lst a => { cls := .type "list_iterator", data := .fields #[.ref a, .int 0 0] }
  | .tup a => { cls := .type "tuple_iterator", data := .fields #[.ref a, .int 0 0] }
  | .txt x t => { cls := .type (strIterType x), data := .fields #[.str x t, .int 0 0] }
def SK.itS : SK → Addr → Nat → Heap → Prop
  | .lst a, it, i, h => h.IsListIter it a i
  | .tup a, it, i, h => h.IsTupleIter it a i
  | .txt x t, it, i, h => h.IsStrIter it (strIterType x) x t i
def SK.sem (K : PySem.W.Frag) : SK → Hp → List V → Prop
  | .lst a, H, xs => SqL K H a xs
  | .tup a, H, xs => SqT K H a xs
  | .txt x _, _, xs => xs = x.cps.toList.map fun c => V.str ⟨#[c]⟩
def SK.fp : SK → List Addr
  | .lst a => [a]
  | .tup a => [a]
  | .txt .. => []
/-- what stands in the heap for it -/
def SK.pre : SK → Array Value → Heap → Prop
  | .lst a, its, h => h.IsList a its
  | .tup a, its, h => h.IsTuple a its
  | .txt .., _, _ => True
theorem SK.begins (k : SK) (its : Array Value) : Begins k.val k.ob (k.pre its) := by
  cases k with
  | lst a => exact begins_list a its
  | tup a => exact begins_tuple a its
  | txt x t => exact begins_text x t
theorem SK.pre_of (k : SK) {X : Cx} {pins : List (Addr × Obj)} {σ : L2.St} {H : Hp} {s : Shared} {xs : List V} (I : L2.Inv X pins σ H s) (h : k.sem X.K H xs) : ∃ its, k.pre its s.heap := by
  cases k with
  | lst a => obtain ⟨its, _, p, _⟩ := I.list h; exact ⟨_, p.isList⟩
  | tup a => obtain ⟨its, _, p, _⟩ := I.tuple h; exact ⟨its.toArray, p⟩
  | txt x t => exact ⟨#[], trivial⟩
theorem SK.ob_at (k : SK) {h : Heap} {it : Addr} (e : h.get? it = some k.ob) : k.itS it 0 h := by
  cases k with
  | lst a => exact ⟨_, e, rfl, rfl⟩
  | tup a => exact ⟨_, e, rfl, rfl⟩
  | txt x t => exact ⟨_, e, rfl, rfl⟩
theorem SK.it_at (k : SK) {h h' : Heap} {it : Addr} {i : Nat} (x : k.itS it i h) (kp : ∀ o, h.get? it = some o → h'.get? it = some o) : k.itS it i h' := by
  cases k with
  | lst a => exact Heap.IsListIter.at x kp
  | tup a => exact Heap.IsTupleIter.at x kp
  | txt y t => obtain ⟨o, ho, r⟩ := x; exact ⟨o, kp o ho, r⟩
theorem SK.it_ob (k : SK) {h : Heap} {it : Addr} {i : Nat} (x : k.itS it i h) : ∃ o, h.get? it = some o ∧ ∀ v, o.data ≠ .cell v := by
  cases k with
  | lst a => obtain ⟨o, ho, _, d⟩ := x; exact ⟨o, ho, fun v q => by rw [d] at q; cases q⟩
  | tup a => obtain ⟨o, ho, _, d⟩ := x; exact ⟨o, ho, fun v q => by rw [d] at q; cases q⟩
  | txt y t => obtain ⟨o, ho, _, d⟩ := x; exact ⟨o, ho, fun v q => by rw [d] at q; cases q⟩
theorem SK.below (k : SK) {X : Cx} {pins : List (Addr × Obj)} {σ : L2.St} {H : Hp} {s : Shared} {xs : List V} (I : L2.Inv X pins σ H s) (h : k.sem X.K H xs) : ∀ b ∈ k.fp, b < s.heap.objs.size := by
  cases k with
  | lst a => obtain ⟨its, _, p, _⟩ := I.list h; intro b hb; rw [List.mem_singleton.mp hb]; exact p.lt
  | tup a => obtain ⟨its, _, ⟨o, p, _⟩, _⟩ := I.tuple h; intro b hb; rw [List.mem_singleton.mp hb]; exact Heap.lt_size p
  | txt x t => intro b hb; cases hb
theorem SK.inj (k : SK) {X : Cx} {pins : List (Addr × Obj)} {σ : L2.St} {H : Hp} {s : Shared} {xs ys : List V} (I : L2.Inv X pins σ H s) (h : k.sem X.K H xs) (h' : k.sem X.K H ys) : xs = ys := by
  cases k with
  | lst a => exact I.list_inj h h'
  | tup a => exact I.tuple_inj h h'
  | txt x t => exact h.trans h'.symm
theorem vals_back {xs : List V} {us : List Value} (r : L2.Vals xs us) {i : Nat} {u : Value} (e : us[i]? = some u) : ∃ x, xs[i]? = some x ∧ RelV x u := by
  have hl : i < xs.length := by rw [r.length]; exact (List.getElem?_eq_some_iff.mp e).1
  obtain ⟨u', e', ru⟩ := r.get (List.getElem?_eq_getElem hl)
  rw [e] at e'
  cases e'
  exact ⟨_, List.getElem?_eq_getElem hl, ru⟩
/-- what its iterator draws -/
theorem SK.draws (k : SK) {X : Cx} {pins : List (Addr × Obj)} {σ : L2.St} {H : Hp} {s : Shared} {xs : List V} (A : Around) (I : L2.Inv X pins σ H s) (hc : A.handled = none) (h : k.sem X.K H xs) (it : Addr) (ne : it ∉ k.fp) :
    ∃ (P : Nat → Value → Prop) (St : Nat → Heap → Prop), Draws X.prog X.w A it (it :: k.fp) xs.length P St ∧ (∀ i, k.itS it i s.heap → St i s.heap) ∧ (∀ i h, St i h → k.itS it i h) ∧ ∀ i v, P i v → ∃ x, xs[i]? = some x ∧ RelV x v := by
  cases k with
  | lst a =>
    obtain ⟨its, rv, p, _⟩ := I.list h
    have D := Draws.list (prog := X.prog) (w := X.w) hc it a (fun e => ne (by rw [e]; exact List.mem_singleton_self _)) its.toArray
    rw [List.size_toArray, ← rv.length] at D
    refine ⟨_, _, D, fun i z => ⟨z, p.isList⟩, fun i h z => z.1, fun i v z => ?_⟩
    have z' : its[i]? = some v := by simpa using z
    exact vals_back rv z'
  | tup a =>
    obtain ⟨its, rv, p, _⟩ := I.tuple h
    have D := Draws.tuple (prog := X.prog) (w := X.w) hc it a (fun e => ne (by rw [e]; exact List.mem_singleton_self _)) its.toArray
    rw [List.size_toArray, ← rv.length] at D
    refine ⟨_, _, D, fun i z => ⟨z, p⟩, fun i h z => z.1, fun i v z => ?_⟩
    have z' : its[i]? = some v := by simpa using z
    exact vals_back rv z'
  | txt x t =>
    have D := Draws.text (prog := X.prog) (w := X.w) hc it x t
    have e : xs.length = x.cps.size := by rw [show xs = _ from h]; simp
    rw [← e] at D
    refine ⟨_, _, D, fun i z => z, fun i h z => z, fun i v ⟨c, u, z1, z2⟩ => ⟨.str ⟨#[c]⟩, ?_, u, z2⟩⟩
    rw [show xs = _ from h, List.getElem?_map, Array.getElem?_toList, z1]
    rfl
theorem meets_en {v : Value} {o : Obj} {H : Heap → Prop} (B : Begins v o H) (lv : ∀ h, H h → ∀ a, v = .ref a → ∃ ob, h.get? a = some ob) (nv : match v with | .ref _ => True | .str .. => True | _ => False) :
    Meets (Builtin.«enumerate.__new__» ⟨[.type "enumerate", v], []⟩) (fun _ R s => H s.heap ∧ R (.ok (.ret (.ref (s.heap.push o).objs.size))) { s with heap := enNew (s.heap.push o) s.heap.objs.size }) :=
  .of_wp fun prog w A R s h => by
    obtain ⟨hp, g, d, tk, os⟩ := s; obtain ⟨h1, h⟩ := h
    have hsub := sub_enumerate
    have q1 : ∀ {A' : Around} {E : Value → Shared → Prop} {Q : Value → Shared → Prop}, Q (.ref hp.objs.size) ⟨hp.push o, g, d, tk, os⟩ → wpAny (model prog w) A' (pyIter v) Q E ⟨hp, g, d, tk, os⟩ :=
      fun q => B.iter prog w _ _ ⟨hp, g, d, tk, os⟩ _ h1 q
    have q0 := lv hp h1
    cases v with
    | ref a =>
      obtain ⟨ob, hl⟩ := q0 a rfl
      wp_walk using wpAny_loadPart' hl
      refine wpAny_stack_any fun st => wpAny_pure ?_
      split
      · rename_i c _ _ _ _ _
        cases (c == Value.type "enumerate")
        · wp_walk using wpAny_loadPart' hl, q1
          exact ⟨_, rfl, h⟩
        · wp_walk using wpAny_loadPart' hl, q1
          exact ⟨_, rfl, h⟩
      · wp_walk using wpAny_loadPart' hl, q1
        exact ⟨_, rfl, h⟩
    | str x t =>
      wp_walk
      refine wpAny_stack_any fun st => wpAny_pure ?_
      split
      · rename_i c _ _ _ _ _
        cases (c == Value.type "enumerate")
        · wp_walk using q1
          exact ⟨_, rfl, h⟩
        · wp_walk using q1
          exact ⟨_, rfl, h⟩
      · wp_walk using q1
        exact ⟨_, rfl, h⟩
    | _ => exact nv.elim
end N
/-! NZ3: the turns of zip over lists, tuples, texts. -/
namespace N
open PySem PySem.Spec PyProof.Rows L2
/-- a new pair at each turn -/
def ItzS (K : PySem.W.Frag) (k1 k2 : SK) : It :=
  ⟨fun i H => ∃ (xs ys : List V) (x y : V), k1.sem K H xs ∧ k2.sem K H ys ∧ xs[i]? = some x ∧ ys[i]? = some y,
    fun i H v H' => ∃ T x y, v = .ref T ∧ H T = none ∧ H' = upd H T (.tup [x, y]) ∧ (∀ xs, k1.sem K H xs → xs[i]? = some x) ∧ ∀ ys, k2.sem K H ys → ys[i]? = some y,
    fun i H => ∃ xs ys : List V, k1.sem K H xs ∧ k2.sem K H ys ∧ i ≤ xs.length ∧ i ≤ ys.length ∧ (xs.length = i ∨ ys.length = i)⟩
structure Apt (z TI TO i1 i2 : Addr) (f1 f2 : List Addr) : Prop where
  S : ZipSep2 z TI TO i1 i2 (i1 :: f1) (i2 :: f2)
  n1 : i1 ∉ f1
  n2 : i2 ∉ f2
def zipTn (k1 k2 : SK) (z TI TO i1 i2 : Addr) (i : Nat) (h : Heap) : Prop :=
  IsZip h z TI TO .none ∧ IsTupOf2 h TI (.ref i1) (.ref i2) ∧ (∃ x y, IsTupOf2 h TO x y) ∧ k1.itS i1 i h ∧ k2.itS i2 i h
theorem five {z TI TO i1 i2 c : Addr} (h : c ∈ [z, TI, TO, i1, i2]) : c = z ∨ c = TI ∨ c = TO ∨ c = i1 ∨ c = i2 := by simpa using h
theorem nin5 {z TI TO i1 i2 c : Addr} (h : c ∉ [z, TI, TO, i1, i2]) : c ≠ z ∧ c ≠ TI ∧ c ≠ TO ∧ c ≠ i1 ∧ c ≠ i2 :=
  ⟨fun e => h (by simp [e]), fun e => h (by simp [e]), fun e => h (by simp [e]), fun e => h (by simp [e]), fun e => h (by simp [e])⟩
theorem turn_zipS {P : Program} {w : World} {K : PySem.W.Frag} {elts : List Expr} {kk : Nat} {tpos : Pos} {k1 k2 : SK} {z TI TO i1 i2 : Addr} (D : Apt z TI TO i1 i2 k1.fp k2.fp) :
    Turn P w K (.Tuple elts kk tpos) (ItzS K k1 k2) [z, TI, TO, i1, i2] z (zipTn k1 k2 z TI TO i1 i2) where
  mem := List.mem_cons_self ..
  obj := fun i h st c hc => by
    obtain ⟨hz, hTI, ⟨x, y, hTO⟩, h1, h2⟩ := st
    rcases five hc with q | q | q | q | q
    · rw [q]; exact ⟨_, hz, fun v e => nomatch e⟩
    · rw [q]; exact ⟨_, hTI, fun v e => nomatch e⟩
    · rw [q]; exact ⟨_, hTO, fun v e => nomatch e⟩
    · exact q ▸ k1.it_ob h1
    · exact q ▸ k2.it_ob h2
  keep := fun i h h' st k => by
    obtain ⟨hz, hTI, ⟨x, y, hTO⟩, h1, h2⟩ := st
    exact ⟨k z (by simp) _ hz, k TI (by simp) _ hTI, ⟨x, y, k TO (by simp) _ hTO⟩, k1.it_at h1 fun o q => k i1 (by simp) o q, k2.it_at h2 fun o q => k i2 (by simp) o q⟩
  item := by
    intro X hP hw hK hc i pins s σ H E I hf st hg
    subst hP hw hK
    obtain ⟨hz, hTI, ⟨x0, y0, hTO⟩, h1, h2⟩ := st
    obtain ⟨xs, ys, x, y, hqx, hqy, hx, hy⟩ := hg
    have hd : X.A.in1.handled = none := I.ok.hd hc
    obtain ⟨P1, St1, D1, to1, of1, r1⟩ := k1.draws X.A.in1 I hd hqx i1 D.n1
    obtain ⟨P2, St2, D2, to2, of2, r2⟩ := k2.draws X.A.in1 I hd hqy i2 D.n2
    have l1 := (List.getElem?_eq_some_iff.mp hx).1
    have l2 := (List.getElem?_eq_some_iff.mp hy).1
    have hzl : z < s.heap.objs.size := Heap.lt_size hz
    refine wpAny_pyNext_zipD2_item D.S D1 D2 hz hTI hTO (to1 i h1) (to2 i h2) l1 l2 fun u u2 h' tk p1 p2 z' TO' s1' s2' hT hsz hk => ?_
    obtain ⟨x', ex', ru⟩ := r1 i u p1
    obtain ⟨y', ey', ru2⟩ := r2 i u2 p2
    rw [hx] at ex'
    cases ex'
    rw [hy] at ey'
    cases ey'
    refine ⟨_, rfl, wpAny_letOwnedTupleGo_zip (s := { s with heap := h', toks := tk }) z' fun h'' z'' sb => ?_⟩
    replace sb : Heap.SameBut z h' h'' := sb
    have hT2 : IsTupOf2 h'' s.heap.objs.size u u2 := (sb.2 _ (Nat.ne_of_gt hzl)).trans hT
    have new : ObjOk X.prog X.w (upd H s.heap.objs.size (.tup [x, y])) h'' s.heap.objs.size (.tup [x, y]) := ⟨show 2 ≤ sizeLine by decide, [u, u2], .cons ru (.cons ru2 .nil), ⟨_, hT2, rfl, _, rfl⟩⟩
    have I1 : L2.Inv X pins σ (upd H s.heap.objs.size (.tup [x, y])) { s with heap := h'', toks := tk } :=
      I.turnedNew (ch := [z, TI, TO, i1, i2]) (fun c o hb q => by
        obtain ⟨a1, a2, a3, a4, a5⟩ := nin5 hb
        exact (sb.2 c a1).trans (hk c o a1 a3 a4 a5 q)) hf (Nat.le_refl _) new
    refine ⟨.ref s.heap.objs.size, _, I1, rfl, ⟨_, x, y, rfl, I.hok.fresh (Nat.le_refl _), rfl, fun l hl => by rw [k1.inj I hl hqx]; exact hx, fun l hl => by rw [k2.inj I hl hqy]; exact hy⟩, ⟨z'', ?_, ⟨u, u2, ?_⟩, ?_, ?_⟩, fun c hcm => ?_⟩
    · exact (sb.2 _ D.S.TIz).trans (hk _ _ D.S.TIz D.S.TITO D.S.TIi1 D.S.TIi2 hTI)
    · exact (sb.2 _ D.S.TOz).trans TO'
    · exact k1.it_at (of1 _ _ s1') fun o q => (sb.2 _ D.S.zi1.symm).trans q
    · exact k2.it_at (of2 _ _ s2') fun o q => (sb.2 _ D.S.zi2.symm).trans q
    · have hlt : c < s.heap.objs.size := by
        rcases five hcm with q | q | q | q | q
        · exact q ▸ hzl
        · exact q ▸ Heap.lt_size hTI
        · exact q ▸ Heap.lt_size hTO
        · obtain ⟨o, e1, _⟩ := k1.it_ob h1; exact q ▸ Heap.lt_size e1
        · obtain ⟨o, e1, _⟩ := k2.it_ob h2; exact q ▸ Heap.lt_size e1
      rw [upd_ne (Nat.ne_of_lt hlt)]
      exact (hf c hcm).1
  done := by
    intro X hP hw hK hc i pins s σ H E I hf st hg
    subst hP hw hK
    obtain ⟨hz, hTI, ⟨x0, y0, hTO⟩, h1, h2⟩ := st
    obtain ⟨xs, ys, hqx, hqy, g1, g2, hend⟩ := hg
    have hd : X.A.in1.handled = none := I.ok.hd hc
    obtain ⟨P1, St1, D1, to1, of1, r1⟩ := k1.draws X.A.in1 I hd hqx i1 D.n1
    obtain ⟨P2, St2, D2, to2, of2, r2⟩ := k2.draws X.A.in1 I hd hqy i2 D.n2
    exact wpAny_pyNext_zipD2_end D.S D1 D2 hz hTI hTO (to1 i h1) (to2 i h2) g1 g2 (hend.imp Eq.symm Eq.symm) fun h' tk hk => ⟨rfl, I.turnedL (t' := tk) (ch := [z, TI, TO, i1, i2]) (fun c o hb q => by
      obtain ⟨a1, a2, a3, a4, a5⟩ := nin5 hb
      exact hk c o a1 a3 a4 a5 q) hf⟩
  self := fun A i s Q E st h => wpAny_pyIter_zip st.1 h
end N
/-! NZ4: the turns of enumerate over a list, a tuple, a text; how zip and enumerate begin. -/
namespace N
open PySem PySem.Spec PyProof.Rows L2
def IteS (K : PySem.W.Frag) (k : SK) : It :=
  ⟨fun i H => ∃ (xs : List V) (x : V), k.sem K H xs ∧ xs[i]? = some x, fun i H v H' => ∃ T x, v = .ref T ∧ H T = none ∧ H' = upd H T (.tup [.int (i : Nat), x]) ∧ ∀ xs, k.sem K H xs → xs[i]? = some x, fun i H => ∃ xs : List V, k.sem K H xs ∧ xs.length = i⟩
theorem two {e it c : Addr} (h : c ∈ [e, it]) : c = e ∨ c = it := by simpa using h
theorem nin2 {e it c : Addr} (h : c ∉ [e, it]) : c ≠ e ∧ c ≠ it := ⟨fun z => h (by simp [z]), fun z => h (by simp [z])⟩
theorem turn_enumS {P : Program} {w : World} {K : PySem.W.Frag} {elts : List Expr} {kk : Nat} {tpos : Pos} {k : SK} {e it : Addr} (ne : e ≠ it) (n1 : it ∉ k.fp) (n2 : e ∉ k.fp) :
    Turn P w K (.Tuple elts kk tpos) (IteS K k) [e, it] e (fun i h => (∃ old, IsEnum h e it ((i : Nat) : Int) old) ∧ k.itS it i h) where
  mem := List.mem_cons_self ..
  obj := fun i h st b hb => by
    obtain ⟨⟨old, he⟩, h1⟩ := st
    rcases two hb with z | z
    · rw [z]; exact ⟨_, he, fun v q => nomatch q⟩
    · rw [z]; exact k.it_ob h1
  keep := fun i h h' st kp => let ⟨⟨old, he⟩, hi⟩ := st; ⟨⟨old, kp e (by simp) _ he⟩, k.it_at hi fun o q => kp it (by simp) o q⟩
  item := by
    intro X hP hw hK hc i pins s σ H E I hf st hg
    subst hP hw hK
    obtain ⟨⟨old, he⟩, hit⟩ := st
    obtain ⟨xs, x, hq, hx⟩ := hg
    have hd : X.A.in1.handled = none := I.ok.hd hc
    obtain ⟨P1, St1, D1, to1, of1, r1⟩ := k.draws X.A.in1 I hd hq it n1
    have hel : e < s.heap.objs.size := Heap.lt_size he
    have hef : e ∉ it :: k.fp := fun m => by
      rcases List.mem_cons.mp m with z | z
      · exact ne z
      · exact n2 z
    refine wpAny_pyNext_enum_itemD D1 he (to1 i hit) (List.getElem?_eq_some_iff.mp hx).1 ne hef fun u h' tk p1 ho st' hT hsz hk => ?_
    obtain ⟨x', ex', ru⟩ := r1 i u p1
    rw [hx] at ex'
    cases ex'
    refine ⟨_, rfl, wpAny_letOwnedTupleGo_enum (s := { s with heap := h', toks := tk + 1 }) ho fun h'' he' sb => ?_⟩
    replace sb : Heap.SameBut e h' h'' := sb
    have hT2 : h''.get? s.heap.objs.size = some { cls := .type "tuple", data := .seq #[.int i tk, u] } := (sb.2 _ (Nat.ne_of_gt hel)).trans hT
    have new : ObjOk X.prog X.w (upd H s.heap.objs.size (.tup [.int (i : Nat), x])) h'' s.heap.objs.size (.tup [.int (i : Nat), x]) := ⟨show 2 ≤ sizeLine by decide, [.int i tk, u], .cons ⟨_, rfl⟩ (.cons ru .nil), ⟨_, hT2, rfl, _, rfl⟩⟩
    have I1 : L2.Inv X pins σ (upd H s.heap.objs.size (.tup [.int (i : Nat), x])) { s with heap := h'', toks := tk + 1 } :=
      I.turnedNew (ch := [e, it]) (fun b ob hb q => (sb.2 b (nin2 hb).1).trans (hk b ob (nin2 hb).1 (nin2 hb).2 q)) hf (Nat.le_refl _) new
    refine ⟨.ref s.heap.objs.size, _, I1, rfl, ⟨_, x, rfl, I.hok.fresh (Nat.le_refl _), rfl, fun ys hy => by rw [k.inj I hy hq]; exact hx⟩, ⟨⟨u, ?_⟩, k.it_at (of1 _ _ st') fun o q => (sb.2 it ne.symm).trans q⟩, fun b hb => ?_⟩
    · have e1 : ((i + 1 : Nat) : Int) = (i : Int) + 1 := by omega
      rw [e1]; exact he'
    · have hb' : b < s.heap.objs.size := by
        rcases two hb with z | z
        · rw [z]; exact hel
        · obtain ⟨o, e1, _⟩ := k.it_ob hit
          rw [z]; exact Heap.lt_size e1
      rw [upd_ne (Nat.ne_of_lt hb')]
      exact (hf b hb).1
  done := by
    intro X hP hw hK hc i pins s σ H E I hf st hg
    subst hP hw hK
    obtain ⟨⟨old, he⟩, hit⟩ := st
    obtain ⟨xs, hq, hx⟩ := hg
    have hd : X.A.in1.handled = none := I.ok.hd hc
    obtain ⟨P1, St1, D1, to1, of1, r1⟩ := k.draws X.A.in1 I hd hq it n1
    obtain ⟨f0, f1, f2, f3, f4, f5⟩ := hf it (by simp)
    exact wpAny_pyNext_enum_endD D1 he (by rw [hx]; exact to1 i hit) fun h' eb => ⟨rfl, I.turned (t' := s.toks) (fun b o hb q => eb b o hb q) f0 f1 f3 f4 f5⟩
  self := fun A i s Q E st h => let ⟨⟨_, he⟩, _⟩ := st; wpAny_pyIter_enum he h
/-- a V is walked as k -/
def SK.of (K : PySem.W.Frag) (H : Hp) : V → SK → Prop
  | .ref a, .lst b => a = b ∧ ∃ xs, SqL K H a xs
  | .ref a, .tup b => a = b ∧ ∃ xs, SqT K H a xs
  | .str x, .txt y _ => x = y
  | _, _ => False
theorem SK.of_val {K : PySem.W.Frag} {H : Hp} {v : V} {k : SK} {u : Value} (h : k.of K H v) (r : RelV v u) : ∃ k' : SK, k'.val = u ∧ k'.sem K = k.sem K ∧ ∃ xs, k'.sem K H xs := by
  cases k with
  | lst b =>
    cases v <;> try exact h.elim
    obtain ⟨rfl, z⟩ := h
    cases r
    exact ⟨.lst _, rfl, rfl, z⟩
  | tup b =>
    cases v <;> try exact h.elim
    obtain ⟨rfl, z⟩ := h
    cases r
    exact ⟨.tup _, rfl, rfl, z⟩
  | txt y t =>
    cases v <;> try exact h.elim
    have e := h
    unfold SK.of at e
    subst e
    obtain ⟨t', rfl⟩ := r
    exact ⟨.txt _ t', rfl, rfl, _, rfl⟩
theorem ItzS_eq {K : PySem.W.Frag} {k1 k2 k1' k2' : SK} (e1 : k1'.sem K = k1.sem K) (e2 : k2'.sem K = k2.sem K) : ItzS K k1' k2' = ItzS K k1 k2 := by
  unfold ItzS; rw [e1, e2]
theorem IteS_eq {K : PySem.W.Frag} {k k' : SK} (e : k'.sem K = k.sem K) : IteS K k' = IteS K k := by
  unfold IteS; rw [e]
theorem nin_fp {k : SK} {n c : Addr} (h : ∀ b ∈ k.fp, b < n) (le : n ≤ c) : c ∉ k.fp := fun m => absurd (h c m) (Nat.not_lt.mpr le)
/-- zip of two values, begun -/
theorem zip_begun {X : Cx} {pins : List (Addr × Obj)} {σ : L2.St} {H : Hp} {s : Shared} {k1 k2 : SK} {xs ys : List V} {Q : Value → Shared → Prop} {A : Around} {E : Value → Shared → Prop} (I : L2.Inv X pins σ H s) (hx : k1.sem X.K H xs) (hy : k2.sem X.K H ys)
    (k : ∀ (h' : Heap) (z TI TO i1 i2 : Addr), Apt z TI TO i1 i2 k1.fp k2.fp → zipTn k1 k2 z TI TO i1 i2 0 h' → (∀ b ∈ [z, TI, TO, i1, i2], s.heap.objs.size ≤ b ∧ b < h'.objs.size) → L2.Inv X pins σ H { s with heap := h' } → (∀ c o, s.heap.get? c = some o → h'.get? c = some o) → Q (.ref z) { s with heap := h' }) :
    wpAny (model X.prog X.w) A (call (.type "zip") [k1.val, k2.val]) Q E s := by
  obtain ⟨its1, p1⟩ := k1.pre_of I hx
  obtain ⟨its2, p2⟩ := k2.pre_of I hy
  have b1 := k1.below I hx
  have b2 := k2.below I hy
  refine zip_begins2 (k1.begins its1) (k2.begins its2) p1 p2 fun h' hz hTI hTO h1 h2 hsz hk => ?_
  refine k h' _ _ _ _ _ ⟨zip_sep2 b1 b2, nin_fp b1 (Nat.le_refl _), nin_fp b2 (Nat.le_succ _)⟩ ⟨hz, hTI, ⟨_, _, hTO⟩, k1.ob_at h1, k2.ob_at h2⟩ (fun b hb => ?_) (I.kept (t' := s.toks) hk) hk
  rw [hsz]
  rcases five hb with q | q | q | q | q
  · rw [q]; exact ⟨Nat.le_add_right _ _, Nat.add_lt_add_left (by decide) _⟩
  · rw [q]; exact ⟨Nat.le_add_right _ _, Nat.add_lt_add_left (by decide) _⟩
  · rw [q]; exact ⟨Nat.le_add_right _ _, Nat.add_lt_add_left (by decide) _⟩
  · rw [q]; exact ⟨Nat.le_refl _, Nat.lt_add_of_pos_right (by decide)⟩
  · rw [q]; exact ⟨Nat.le_add_right _ _, Nat.add_lt_add_left (by decide) _⟩
def iZipS (K : PySem.W.Frag) (ta : TA) : TI := fun σ H R => ta σ H fun vs H1 => ∃ v1 v2 k1 k2, vs = [v1, v2] ∧ SK.of K H1 v1 k1 ∧ SK.of K H1 v2 k2 ∧ R (ItzS K k1 k2) H1
theorem pi_zipS {X : Cx} {e e2 : Expr} {ta : TA} {p pos tpos : Pos} {elts : List Expr} {kk : Nat} (hg : Gl X "zip") (hm : X.mg "zip" = none) (ha : PA X [e, e2] ta)
    (hs : starEach [e, e2] X.env = (false, eval e X.env) :: starEach [e2] X.env := by rfl) (hpl : (backTo pos (starEach [e2] X.env)).any (·.1) = false := by rfl) :
    PI X (.Tuple elts kk tpos) (.Call (.Name "zip" p) [e, e2] [] pos) (iZipS X.K ta) := by
  refine ⟨fun pins s σ H R I h => ?_⟩
  refine Call_ (ld_blt I hg hm PyProof.Rows.boot_zip (PyProof.Rows.callWith_type1 (thn (ha.run pos pins s σ H _ I h) fun us s1 ⟨vs, H1, I1, r1, q1⟩ => ?_) hs hpl))
  obtain ⟨v1, v2, k1, k2, rfl, o1, o2, q⟩ := q1
  cases r1 with
  | cons r rr =>
    cases rr with
    | cons r' rr =>
      cases rr
      obtain ⟨j1, e1, m1, xs, hx⟩ := SK.of_val o1 r
      obtain ⟨j2, e2', m2, ys, hy⟩ := SK.of_val o2 r'
      rw [← e1, ← e2']
      refine zip_begun I1 hx hy fun h' z TI TO i1 i2 D tn fr I2 hk => wpAny_pyIter_zip tn.1 ?_
      refine ⟨z, [z, TI, TO, i1, i2], _, _, H1, rfl, I2, turn_zipS D, tn, fun c hc => I1.fpOk (fr c hc).1 (I1.hok.fresh (fr c hc).1), ?_⟩
      rw [ItzS_eq m1 m2]
      exact q
end N
/-! NZ5: enumerate begins; enumerate(zip(..)). -/
namespace N
open PySem PySem.Spec PyProof.Rows L2
open AutoSeq1 (wpAny_loadPart')
theorem enNew_is {h : Heap} {it : Addr} : IsEnum (enNew h it) h.objs.size it 0 .none := Heap.get?_push_size _ rfl
/-- enumerate of one value, begun -/
theorem en_begun {X : Cx} {pins : List (Addr × Obj)} {σ : L2.St} {H : Hp} {s : Shared} {k : SK} {xs : List V} {Q : Value → Shared → Prop} {A : Around} {E : Value → Shared → Prop} (I : L2.Inv X pins σ H s) (hx : k.sem X.K H xs)
    (kk : ∀ (h' : Heap) (e it : Addr), e ≠ it → it ∉ k.fp → e ∉ k.fp → IsEnum h' e it ((0 : Nat) : Int) .none → k.itS it 0 h' → (∀ b ∈ [e, it], s.heap.objs.size ≤ b) → L2.Inv X pins σ H { s with heap := h' } → Q (.ref e) { s with heap := h' }) :
    wpAny (model X.prog X.w) A (call (.type "enumerate") [k.val]) Q E s := by
  obtain ⟨its, p⟩ := k.pre_of I hx
  have b := k.below I hx
  have lv : ∀ h, k.pre its h → ∀ a, k.val = .ref a → ∃ ob, h.get? a = some ob := by
    intro h q a e
    cases k with
    | lst c => cases e; obtain ⟨o, ho, _⟩ := q; exact ⟨o, ho⟩
    | tup c => cases e; obtain ⟨o, ho, _⟩ := q; exact ⟨o, ho⟩
    | txt x t => cases e
  refine callType_new F.called_enumerate (by decide) (F.typeCall_enumerate_1 _) (F.newCall_enumerate_1 _) (fun obj => F.args_object_init_2 obj _) F.entry_enumerate_new (meets_en (k.begins its) lv (by cases k <;> exact trivial)) ⟨p, ?_⟩
  have hz : (s.heap.push k.ob).objs.size = s.heap.objs.size + 1 := Heap.size_push ..
  have he : IsEnum (enNew (s.heap.push k.ob) s.heap.objs.size) (s.heap.push k.ob).objs.size s.heap.objs.size 0 .none := enNew_is
  have up : ∀ c o, s.heap.get? c = some o → (enNew (s.heap.push k.ob) s.heap.objs.size).get? c = some o := fun c o x => Heap.get?_push_of_some _ (Heap.get?_push_of_some _ x)
  refine ⟨⟨_, he, rfl⟩, kk _ _ s.heap.objs.size (by rw [hz]; exact Nat.succ_ne_self _) (nin_fp b (Nat.le_refl _)) (nin_fp b (by rw [hz]; exact Nat.le_succ _)) he (k.ob_at (Heap.get?_push_of_some _ (Heap.get?_push_size _ (k.begins its).free))) (fun c hc => ?_) (I.kept (t' := s.toks) up)⟩
  rcases two hc with q | q
  · rw [q, hz]; exact Nat.le_succ _
  · rw [q]; exact Nat.le_refl _
def iEnumS (K : PySem.W.Frag) (ta : TA) : TI := fun σ H R => ta σ H fun vs H1 => ∃ v1 k1, vs = [v1] ∧ SK.of K H1 v1 k1 ∧ R (IteS K k1) H1
theorem pi_enumS {X : Cx} {e : Expr} {ta : TA} {p pos tpos : Pos} {elts : List Expr} {kk : Nat} (hg : Gl X "enumerate") (hm : X.mg "enumerate" = none) (ha : PA X [e] ta) (hs : starEach [e] X.env = [(false, eval e X.env)] := by rfl) :
    PI X (.Tuple elts kk tpos) (.Call (.Name "enumerate" p) [e] [] pos) (iEnumS X.K ta) := by
  refine ⟨fun pins s σ H R I h => ?_⟩
  refine Call_ (ld_blt I hg hm boot_enumerate (PyProof.Rows.callWith_type1 (thn (ha.run pos pins s σ H _ I h) fun us s1 ⟨vs, H1, I1, r1, q1⟩ => ?_) hs rfl))
  obtain ⟨v1, k1, rfl, o1, q⟩ := q1
  cases r1 with
  | cons r rr =>
    cases rr
    obtain ⟨j1, e1, m1, xs, hx⟩ := SK.of_val o1 r
    rw [← e1]
    refine en_begun I1 hx fun h' e it ne n1 n2 he hi fr I2 => wpAny_pyIter_enum he ?_
    refine ⟨e, [e, it], _, _, H1, rfl, I2, turn_enumS ne n1 n2, ⟨⟨_, he⟩, hi⟩, fun c hc => I1.fpOk (fr c hc) (I1.hok.fresh (fr c hc)), ?_⟩
    rw [IteS_eq m1]
    exact q
/-! ### enumerate over a zip object -/
theorem meets_enz (z TI TO : Addr) :
    Meets (Builtin.«enumerate.__new__» ⟨[.type "enumerate", .ref z], []⟩) (fun _ R s => IsZip s.heap z TI TO .none ∧ R (.ok (.ret (.ref s.heap.objs.size))) { s with heap := enNew s.heap z }) :=
  .of_wp fun prog w A R s h => by
    obtain ⟨hp, g, d, tk, os⟩ := s; obtain ⟨h1, h⟩ := h
    have hsub := sub_enumerate
    have q1 : ∀ {A' : Around} {E : Value → Shared → Prop} {Q : Value → Shared → Prop}, Q (.ref z) ⟨hp, g, d, tk, os⟩ → wpAny (model prog w) A' (pyIter (.ref z)) Q E ⟨hp, g, d, tk, os⟩ := fun q => wpAny_pyIter_zip h1 q
    wp_walk using wpAny_loadPart' h1
    refine wpAny_stack_any fun st => wpAny_pure ?_
    split
    · rename_i c _ _ _ _ _
      cases (c == Value.type "enumerate")
      · wp_walk using wpAny_loadPart' h1, q1
        exact ⟨_, rfl, h⟩
      · wp_walk using wpAny_loadPart' h1, q1
        exact ⟨_, rfl, h⟩
    · wp_walk using wpAny_loadPart' h1, q1
      exact ⟨_, rfl, h⟩
section
variable {prog : Program} {w : World} {A : Around} {E : Value → Shared → Prop} {s : Shared}
variable {e z TI TO i1 i2 : Addr} {fp1 fp2 : List Addr} {n1 n2 i : Nat} {P1 P2 : Nat → Value → Prop} {St1 St2 : Nat → Heap → Prop} {a1 a2 : Value} {f0 f1 old : Value}
/-- the cells of enumerate(zip) -/
structure EzAp (e z TI TO i1 i2 : Addr) (fp1 fp2 : List Addr) : Prop where
  S : ZipSep2 z TI TO i1 i2 fp1 fp2
  ez : e ≠ z
  eTI : e ≠ TI
  eTO : e ≠ TO
  e1 : e ∉ fp1
  e2 : e ∉ fp2
theorem EzAp.ei1 (D : EzAp e z TI TO i1 i2 fp1 fp2) : e ≠ i1 := fun q => D.e1 (by rw [q]; exact D.S.mem1)
theorem EzAp.ei2 (D : EzAp e z TI TO i1 i2 fp1 fp2) : e ≠ i2 := fun q => D.e2 (by rw [q]; exact D.S.mem2)
theorem enz_item {Q : Option Value → Shared → Prop} (D : EzAp e z TI TO i1 i2 fp1 fp2) (D1 : Draws prog w A.in1.in1 i1 fp1 n1 P1 St1) (D2 : Draws prog w A.in1.in1 i2 fp2 n2 P2 St2)
    (he : IsEnum s.heap e z i old) (hz : Zq s.heap z TI TO f0 f1) (hf : Fq f0) (hTI : IsTupOf2 s.heap TI (.ref i1) (.ref i2)) (hTO : IsTupOf2 s.heap TO a1 a2) (st1 : St1 i s.heap) (st2 : St2 i s.heap) (lt1 : i < n1) (lt2 : i < n2)
    (k : ∀ x1 x2 h' tk f0' f1', P1 i x1 → P2 i x2 → IsEnumOut h' e z ((i : Int) + 1) (.ref s.heap.objs.size) (s.heap.objs.size + 1) → Zq h' z TI TO f0' f1' → Fq f0' → (∃ b1 b2, IsTupOf2 h' TO b1 b2) → St1 (i + 1) h' → St2 (i + 1) h' →
      IsTupOf2 h' s.heap.objs.size x1 x2 → (∃ t, IsTupOf2 h' (s.heap.objs.size + 1) (.int i t) (.ref s.heap.objs.size)) → h'.objs.size = s.heap.objs.size + 2 →
      (∀ c o, c ≠ e → c ≠ z → c ≠ TO → c ≠ i1 → c ≠ i2 → s.heap.get? c = some o → h'.get? c = some o) → Q (some (.ref (s.heap.objs.size + 1))) { s with heap := h', toks := tk }) :
    wpAny (model prog w) A (pyNext (.ref e)) Q E s := by
  obtain ⟨hp, g, d, t0, os⟩ := s
  have hT : (Shared.mk hp g d t0 os).TypeIs (.ref e) "enumerate" := ⟨_, he, rfl⟩
  unfold pyNext
  refine wpAny_bind (wpAny_attempt (wpAny_callSpecial?_slot (name := Str.ofString "__next__") hT F.slot_enumerate_next (wpAny_call_entry F.slot_enumerate_next hT F.entry_enumerate_next ?_ (F.args_enumerate_next_1 _))))
  show wpAny _ _ (field (.ref e) 2 >>= _) _ _ _
  refine wpAny_bind (wpAny_field he rfl (x := .ref z) rfl ?_)
  have hTz : (Shared.mk hp g d t0 os).TypeIs (.ref z) "zip" := ⟨_, hz, rfl⟩
  have nx : ∀ {E' : Value → Shared → Prop} {Q' : Value → Shared → Prop}, ZqK ⟨hp, g, d, t0, os⟩ z TI TO i1 i2 P1 P2 St1 St2 i Q' → wpAny (model prog w) A.in1 (Builtin.SmallTypes.nextOf (.ref z)) Q' E' ⟨hp, g, d, t0, os⟩ := by
    intro E' Q' q
    unfold Builtin.SmallTypes.nextOf
    refine wpAny_bind (wpAny_callSpecial?_slot (name := Str.ofString "__next__") hTz F.slot_zip_next (wpAny_call_entry F.slot_zip_next hTz F.entry_zip_next ?_ (F.args_zip_next_1 _)))
    exact zq_item D.S D1 D2 hz hf hTI hTO st1 st2 lt1 lt2 (fun x1 x2 h' tk f0' f1' p1 p2 b1 b2 b3 b4 b5 b6 b7 b8 => wpAny_pure (q x1 x2 h' tk f0' f1' p1 p2 b1 b2 b3 b4 b5 b6 b7 b8))
  refine wpAny_bind (nx fun x1 x2 g1 tk f0' f1' hx1 hx2 hz1 fq1 hTO1 s1' s2' hT1 hsz1 hk1 => ?_)
  replace hT1 : IsTupOf2 g1 hp.objs.size x1 x2 := hT1
  replace hsz1 : g1.objs.size = hp.objs.size + 1 := hsz1
  replace hk1 : ∀ c o, c ≠ z → c ≠ TO → c ≠ i1 → c ≠ i2 → hp.get? c = some o → g1.get? c = some o := hk1
  have he1 : IsEnum g1 e z i old := hk1 _ _ D.ez D.eTO D.ei1 D.ei2 he
  have lte : e < hp.objs.size := Heap.lt_size he
  show wpAny _ _ (field (.ref e) 3 >>= _) _ _ ⟨g1, g, d, tk, os⟩
  refine wpAny_bind (wpAny_field he1 rfl (x := rawInt i) rfl ?_)
  show wpAny _ _ (field (.ref e) 4 >>= _) _ _ ⟨g1, g, d, tk, os⟩
  refine wpAny_bind (wpAny_field he1 rfl (x := .none) rfl ?_)
  show wpAny _ _ (mkInt i >>= _) _ _ ⟨g1, g, d, tk, os⟩
  refine wpAny_bind (wpAny_mkInt ?_)
  show wpAny _ _ (setField (.ref e) 3 (rawInt ((i : Int) + 1)) >>= _) _ _ ⟨g1, g, d, tk + 1, os⟩
  refine wpAny_bind (wpAny_setField_rec he1 (by simp) fun g2 he2 s2 => ?_)
  replace s2 : Heap.SameBut e g1 g2 := s2
  replace he2 : IsEnum g2 e z ((i : Int) + 1) old := he2
  show wpAny _ _ (setField (.ref e) 4 .none >>= _) _ _ ⟨g2, g, d, tk + 1, os⟩
  refine wpAny_bind (wpAny_setField_rec he2 (by simp) fun g3 he3 s3 => ?_)
  replace s3 : Heap.SameBut e g2 g3 := s3
  replace he3 : IsEnum g3 e z ((i : Int) + 1) old := he3
  show wpAny _ _ (newTuple [.int i tk, .ref hp.objs.size] >>= _) _ _ ⟨g3, g, d, tk + 1, os⟩
  refine wpAny_bind (wpAny_newTuple ?_)
  have sz3 : g3.objs.size = hp.objs.size + 1 := by rw [s3.1, s2.1, hsz1]
  have he4 : IsEnum (g3.push { cls := .type "tuple", data := .seq #[.int i tk, .ref hp.objs.size] }) e z ((i : Int) + 1) old := Heap.get?_push_of_some _ he3
  have t4 : IsTupOf2 (g3.push { cls := .type "tuple", data := .seq #[.int i tk, .ref hp.objs.size] }) (hp.objs.size + 1) (.int i tk) (.ref hp.objs.size) := by rw [← sz3]; exact Heap.get?_push_size _ rfl
  have w4 : (g3.push { cls := .type "tuple", data := .seq #[.int i tk, .ref hp.objs.size] }).objs.size = hp.objs.size + 2 := by rw [Heap.size_push, sz3]
  have k4 : ∀ c o, c ≠ e → g1.get? c = some o → (g3.push { cls := .type "tuple", data := .seq #[.int i tk, .ref hp.objs.size] }).get? c = some o := fun c o ce y => Heap.get?_push_of_some _ (s3.extBut c o ce (s2.extBut c o ce y))
  show wpAny _ _ (Builtin.SmallTypes.ownedTupleIsFree (.ref e) >>= _) _ _ ⟨g3.push { cls := .type "tuple", data := .seq #[.int i tk, .ref hp.objs.size] }, g, d, tk + 1, os⟩
  rw [show (PySem.Value.ref (Shared.heap ⟨g3, g, d, tk + 1, os⟩).objs.size) = .ref (hp.objs.size + 1) by rw [← sz3]]
  generalize g3.push { cls := .type "tuple", data := .seq #[.int i tk, .ref hp.objs.size] } = g4 at he4 t4 w4 k4
  refine wpAny_bind ?_
  unfold Builtin.SmallTypes.ownedTupleIsFree
  refine wpAny_bind (wpAny_field he4 rfl (x := .none) rfl (wpAny_pure ?_))
  simp only [if_true]
  refine wpAny_bind (wpAny_rule ?_)
  refine wpAny_bind (wpAny_field he4 rfl (x := old) rfl ?_)
  refine wpAny_bind (wpAny_setField_rec he4 (by simp) fun g5 he5 s5 => ?_)
  replace s5 : Heap.SameBut e g4 g5 := s5
  replace he5 : IsEnum g5 e z ((i : Int) + 1) (.ref hp.objs.size) := he5
  show wpAny _ _ (Builtin.SmallTypes.ownedTupleHandOut (.ref e) (.ref (hp.objs.size + 1)) >>= _) _ _ ⟨g5, g, d, tk + 1, os⟩
  refine wpAny_bind ?_
  unfold Builtin.SmallTypes.ownedTupleHandOut
  refine wpAny_bind (wpAny_setField_rec he5 (by simp) fun g6 he6 s6 => ?_)
  replace s6 : Heap.SameBut e g5 g6 := s6
  replace he6 : IsEnumOut g6 e z ((i : Int) + 1) (.ref hp.objs.size) (hp.objs.size + 1) := he6
  refine wpAny_setField_rec he6 (by simp) fun g7 he7 s7 => ?_
  replace s7 : Heap.SameBut e g6 g7 := s7
  replace he7 : IsEnumOut g7 e z ((i : Int) + 1) (.ref hp.objs.size) (hp.objs.size + 1) := he7
  have k7 : ∀ c o, c ≠ e → g4.get? c = some o → g7.get? c = some o := fun c o ce y => s7.extBut c o ce (s6.extBut c o ce (s5.extBut c o ce y))
  have kA : ∀ c o, c ≠ e → g1.get? c = some o → g7.get? c = some o := fun c o ce y => k7 c o ce (k4 c o ce y)
  have nN : hp.objs.size ≠ e := Nat.ne_of_gt lte
  have nN1 : hp.objs.size + 1 ≠ e := Nat.ne_of_gt (Nat.lt_succ_of_lt lte)
  obtain ⟨b1, b2, hb⟩ := hTO1
  refine wpAny_bind (wpAny_letGo (wpAny_pure ⟨_, rfl, ?_⟩))
  refine wpAny_pure (k x1 x2 g7 (tk + 1) f0' f1' hx1 hx2 he7 (kA _ _ D.ez.symm hz1) fq1 ⟨b1, b2, kA _ _ D.eTO.symm hb⟩ ?_ ?_ (kA _ _ nN hT1) ⟨tk, k7 _ _ nN1 t4⟩ ?_ fun c o ce cz cT c1 c2 y => kA c o ce (hk1 c o cz cT c1 c2 y))
  · exact D1.frame _ _ _ s1' fun b hb o y => kA b o (fun q => D.e1 (q ▸ hb)) y
  · exact D2.frame _ _ _ s2' fun b hb o y => kA b o (fun q => D.e2 (q ▸ hb)) y
  · rw [s7.1, s6.1, s5.1, w4]
theorem enz_end {Q : Option Value → Shared → Prop} (D : EzAp e z TI TO i1 i2 fp1 fp2) (D1 : Draws prog w A.in1.in1 i1 fp1 n1 P1 St1) (D2 : Draws prog w A.in1.in1 i2 fp2 n2 P2 St2)
    (he : IsEnum s.heap e z i old) (hz : Zq s.heap z TI TO f0 f1) (hf : Fq f0) (hTI : IsTupOf2 s.heap TI (.ref i1) (.ref i2)) (hTO : IsTupOf2 s.heap TO a1 a2) (st1 : St1 i s.heap) (st2 : St2 i s.heap) (le1 : i ≤ n1) (le2 : i ≤ n2) (fin : i = n1 ∨ i = n2)
    (k : ∀ h' tk, (∀ c o, c ≠ z → c ≠ TO → c ≠ i1 → c ≠ i2 → s.heap.get? c = some o → h'.get? c = some o) → Q none { s with heap := h', toks := tk }) :
    wpAny (model prog w) A (pyNext (.ref e)) Q E s := by
  have hT : s.TypeIs (.ref e) "enumerate" := ⟨_, he, rfl⟩
  unfold pyNext
  refine wpAny_bind (wpAny_attempt (wpAny_callSpecial?_slot (name := Str.ofString "__next__") hT F.slot_enumerate_next (wpAny_call_entry F.slot_enumerate_next hT F.entry_enumerate_next ?_ (F.args_enumerate_next_1 _))))
  show wpAny _ _ (field (.ref e) 2 >>= _) _ _ _
  refine wpAny_bind (wpAny_field he rfl (x := .ref z) rfl ?_)
  have hTz : s.TypeIs (.ref z) "zip" := ⟨_, hz, rfl⟩
  refine wpAny_bind ?_
  unfold Builtin.SmallTypes.nextOf
  refine wpAny_bind (wpAny_callSpecial?_slot (name := Str.ofString "__next__") hTz F.slot_zip_next (wpAny_call_entry F.slot_zip_next hTz F.entry_zip_next ?_ (F.args_zip_next_1 _)))
  refine zq_end D.S D1 D2 hz hf hTI hTO st1 st2 le1 le2 fin fun h' tk x hk hx => ?_
  obtain ⟨o, ho, hc⟩ := hx
  refine wpAny_bind (wpAny_isInstance (T := "StopIteration") (b := true) ⟨o, ho, hc⟩ isSubtype_stop ?_)
  exact wpAny_pure (k h' tk hk)
end
end N
/-! NZ6: the turns of enumerate(zip(..)). -/
namespace N
open PySem PySem.Spec PyProof.Rows L2
/-- an iterator's objects turn, and two new things stand -/
theorem turnedTwo {X : Cx} {pins : List (Addr × Obj)} {σ : L2.St} {H : Hp} {s : Shared} {h' : Heap} {t' : Nat} {ch : List Addr} {T U : Addr} {o1 o2 : HO} (I : L2.Inv X pins σ H s) (k : ∀ b o, b ∉ ch → s.heap.get? b = some o → h'.get? b = some o) (hf : ∀ b ∈ ch, FpOk X pins H b)
    (hT : s.heap.objs.size ≤ T) (hU : s.heap.objs.size ≤ U) (ne : U ≠ T) (new1 : ObjOk X.prog X.w (upd (upd H T o1) U o2) h' T o1) (new2 : ObjOk X.prog X.w (upd (upd H T o1) U o2) h' U o2) :
    L2.Inv X pins σ (upd (upd H T o1) U o2) { s with heap := h', toks := t' } := by
  have nT : H T = none := I.hok.fresh hT
  have nU : H U = none := I.hok.fresh hU
  have kp : ∀ {b u}, H b = some u → (upd (upd H T o1) U o2) b = some u := fun {b u} e => by
    rw [upd_ne (ne_of_none e nU), upd_ne (ne_of_none e nT)]
    exact e
  have kn : ∀ {b}, b < s.heap.objs.size → H b = none → (upd (upd H T o1) U o2) b = none := fun {b} l e => by
    rw [upd_ne (Nat.ne_of_lt (Nat.lt_of_lt_of_le l hU)), upd_ne (Nat.ne_of_lt (Nat.lt_of_lt_of_le l hT))]
    exact e
  have ni : ∀ {b u}, H b = some u → b ∉ ch := fun {b u} e z => by
    have q := (hf b z).1
    rw [q] at e
    cases e
  refine I.step (g' := s.gens) (d' := s.drawn) (ch := ch) (fun b z => ⟨(hf b z).2.2.2.1, (hf b z).2.1, (hf b z).2.2.2.2.1, (hf b z).2.2.2.2.2⟩) (fun b o _ _ z e _ => k b o z e) (fun b o _ _ z e _ => ⟨o.slots, k b o z e⟩)
    (fun b o _ e n => kn (Heap.lt_size e) n) (fun b o z e => ⟨o, k b o z e⟩) (fun b xs e => kp e) (fun b o u e => kp e) (fun b ps e => ⟨#[], ?_⟩) (fun m z => ?_) (fun b u e => ?_) I.bare
  · rw [kp e]; simp
  · obtain ⟨o, es, ep, ho, r⟩ := z
    exact ⟨o, es, ep, k _ o (fun y => (hf _ y).2.1 rfl) ho, r⟩
  · by_cases hb : b = U
    · rw [hb, upd_same] at e
      cases e
      rw [hb]
      exact new2
    · by_cases hb' : b = T
      · rw [hb', upd_ne ne.symm, upd_same] at e
        cases e
        rw [hb']
        exact new1
      · rw [upd_ne hb, upd_ne hb'] at e
        refine (I.hok b u e).stay (fun c v z q => k c v ?_ q) (fun c q => kp q) fun c xs q => kp q
        rcases z with z | z
        · rw [z]; exact ni e
        · exact ni z
/-- a pair of the number and of a new pair -/
def ItEZ (K : PySem.W.Frag) (k1 k2 : SK) : It :=
  ⟨fun i H => ∃ (xs ys : List V) (x y : V), k1.sem K H xs ∧ k2.sem K H ys ∧ xs[i]? = some x ∧ ys[i]? = some y,
    fun i H v H' => ∃ T T2 x y, v = .ref T2 ∧ H T = none ∧ H T2 = none ∧ T2 ≠ T ∧ H' = upd (upd H T (.tup [x, y])) T2 (.tup [.int (i : Nat), .ref T]) ∧ (∀ xs, k1.sem K H xs → xs[i]? = some x) ∧ ∀ ys, k2.sem K H ys → ys[i]? = some y,
    fun i H => ∃ xs ys : List V, k1.sem K H xs ∧ k2.sem K H ys ∧ i ≤ xs.length ∧ i ≤ ys.length ∧ (xs.length = i ∨ ys.length = i)⟩
structure Apz (e z TI TO i1 i2 : Addr) (f1 f2 : List Addr) : Prop where
  Z : Apt z TI TO i1 i2 f1 f2
  ez : e ≠ z
  eTI : e ≠ TI
  eTO : e ≠ TO
  e1 : e ∉ i1 :: f1
  e2 : e ∉ i2 :: f2
theorem Apz.D {e z TI TO i1 i2 : Addr} {f1 f2 : List Addr} (a : Apz e z TI TO i1 i2 f1 f2) : EzAp e z TI TO i1 i2 (i1 :: f1) (i2 :: f2) := ⟨a.Z.S, a.ez, a.eTI, a.eTO, a.e1, a.e2⟩
def ezTn (k1 k2 : SK) (e z TI TO i1 i2 : Addr) (i : Nat) (h : Heap) : Prop :=
  (∃ old, IsEnum h e z ((i : Nat) : Int) old) ∧ (∃ f0 f1, Zq h z TI TO f0 f1 ∧ Fq f0) ∧ IsTupOf2 h TI (.ref i1) (.ref i2) ∧ (∃ x y, IsTupOf2 h TO x y) ∧ k1.itS i1 i h ∧ k2.itS i2 i h
theorem six {e z TI TO i1 i2 c : Addr} (h : c ∈ [e, z, TI, TO, i1, i2]) : c = e ∨ c = z ∨ c = TI ∨ c = TO ∨ c = i1 ∨ c = i2 := by simpa using h
theorem nin6 {e z TI TO i1 i2 c : Addr} (h : c ∉ [e, z, TI, TO, i1, i2]) : c ≠ e ∧ c ≠ z ∧ c ≠ TI ∧ c ≠ TO ∧ c ≠ i1 ∧ c ≠ i2 :=
  ⟨fun e => h (by simp [e]), fun e => h (by simp [e]), fun e => h (by simp [e]), fun e => h (by simp [e]), fun e => h (by simp [e]), fun e => h (by simp [e])⟩
theorem turn_ez {P : Program} {w : World} {K : PySem.W.Frag} {elts : List Expr} {kk : Nat} {tpos : Pos} {k1 k2 : SK} {e z TI TO i1 i2 : Addr} (D : Apz e z TI TO i1 i2 k1.fp k2.fp) :
    Turn P w K (.Tuple elts kk tpos) (ItEZ K k1 k2) [e, z, TI, TO, i1, i2] e (ezTn k1 k2 e z TI TO i1 i2) where
  mem := List.mem_cons_self ..
  obj := fun i h st c hc => by
    obtain ⟨⟨old, he⟩, ⟨f0, f1, hz, _⟩, hTI, ⟨x, y, hTO⟩, h1, h2⟩ := st
    rcases six hc with q | q | q | q | q | q
    · rw [q]; exact ⟨_, he, fun v e => nomatch e⟩
    · rw [q]; exact ⟨_, hz, fun v e => nomatch e⟩
    · rw [q]; exact ⟨_, hTI, fun v e => nomatch e⟩
    · rw [q]; exact ⟨_, hTO, fun v e => nomatch e⟩
    · rw [q]; exact k1.it_ob h1
    · rw [q]; exact k2.it_ob h2
  keep := fun i h h' st k => by
    obtain ⟨⟨old, he⟩, ⟨f0, f1, hz, hf⟩, hTI, ⟨x, y, hTO⟩, h1, h2⟩ := st
    exact ⟨⟨old, k e (by simp) _ he⟩, ⟨f0, f1, k z (by simp) _ hz, hf⟩, k TI (by simp) _ hTI, ⟨x, y, k TO (by simp) _ hTO⟩, k1.it_at h1 fun o q => k i1 (by simp) o q, k2.it_at h2 fun o q => k i2 (by simp) o q⟩
  item := by
    intro X hP hw hK hc i pins s σ H E I hfp st hg
    subst hP hw hK
    obtain ⟨⟨old, he⟩, ⟨f0, f1, hz, hf⟩, hTI, ⟨x0, y0, hTO⟩, h1, h2⟩ := st
    obtain ⟨xs, ys, x, y, hqx, hqy, hx, hy⟩ := hg
    have hd : X.A.in1.in1.handled = none := I.ok.hd hc
    obtain ⟨P1, St1, D1, to1, of1, r1⟩ := k1.draws X.A.in1.in1 I hd hqx i1 D.Z.n1
    obtain ⟨P2, St2, D2, to2, of2, r2⟩ := k2.draws X.A.in1.in1 I hd hqy i2 D.Z.n2
    have l1 := (List.getElem?_eq_some_iff.mp hx).1
    have l2 := (List.getElem?_eq_some_iff.mp hy).1
    have lte : e < s.heap.objs.size := Heap.lt_size he
    have old6 : ∀ c ∈ [e, z, TI, TO, i1, i2], c < s.heap.objs.size := fun c hcm => by
      rcases six hcm with q | q | q | q | q | q
      · rw [q]; exact lte
      · rw [q]; exact Heap.lt_size hz
      · rw [q]; exact Heap.lt_size hTI
      · rw [q]; exact Heap.lt_size hTO
      · obtain ⟨o, e1, _⟩ := k1.it_ob h1; rw [q]; exact Heap.lt_size e1
      · obtain ⟨o, e1, _⟩ := k2.it_ob h2; rw [q]; exact Heap.lt_size e1
    refine enz_item D.D D1 D2 he hz hf hTI hTO (to1 i h1) (to2 i h2) l1 l2 fun u u2 h' tk f0' f1' p1 p2 ho z' fz TO' s1' s2' hT ⟨t, hT2⟩ hsz hk => ?_
    obtain ⟨x', ex', ru⟩ := r1 i u p1
    obtain ⟨y', ey', ru2⟩ := r2 i u2 p2
    rw [hx] at ex'
    cases ex'
    rw [hy] at ey'
    cases ey'
    refine ⟨_, rfl, wpAny_letOwnedTupleGo_enum (s := { s with heap := h', toks := tk }) ho fun h'' he' sb => ?_⟩
    replace sb : Heap.SameBut e h' h'' := sb
    have nN : s.heap.objs.size ≠ e := Nat.ne_of_gt lte
    have nN1 : s.heap.objs.size + 1 ≠ e := Nat.ne_of_gt (Nat.lt_succ_of_lt lte)
    have hT' : IsTupOf2 h'' s.heap.objs.size u u2 := (sb.2 _ nN).trans hT
    have hT2' : IsTupOf2 h'' (s.heap.objs.size + 1) (.int i t) (.ref s.heap.objs.size) := (sb.2 _ nN1).trans hT2
    have hn : H s.heap.objs.size = none := I.hok.fresh (Nat.le_refl _)
    have hn2 : H (s.heap.objs.size + 1) = none := I.hok.fresh (Nat.le_succ _)
    have ne2 : s.heap.objs.size + 1 ≠ s.heap.objs.size := Nat.succ_ne_self _
    have I2 : L2.Inv X pins σ (upd (upd H s.heap.objs.size (.tup [x, y])) (s.heap.objs.size + 1) (.tup [.int (i : Nat), .ref s.heap.objs.size])) { s with heap := h'', toks := tk } :=
      turnedTwo (ch := [e, z, TI, TO, i1, i2]) I (fun c o hb q => by
        obtain ⟨a0, a1, a2, a3, a4, a5⟩ := nin6 hb
        exact (sb.2 c a0).trans (hk c o a0 a1 a3 a4 a5 q)) hfp (Nat.le_refl _) (Nat.le_succ _) ne2
        ⟨show 2 ≤ sizeLine by decide, [u, u2], .cons ru (.cons ru2 .nil), ⟨_, hT', rfl, _, rfl⟩⟩
        ⟨show 2 ≤ sizeLine by decide, [.int i t, .ref s.heap.objs.size], .cons ⟨_, rfl⟩ (.cons rfl .nil), ⟨_, hT2', rfl, _, rfl⟩⟩
    refine ⟨.ref (s.heap.objs.size + 1), _, I2, rfl, ⟨_, _, x, y, rfl, hn, hn2, ne2, rfl, fun l hl => by rw [k1.inj I hl hqx]; exact hx, fun l hl => by rw [k2.inj I hl hqy]; exact hy⟩, ⟨⟨.ref s.heap.objs.size, ?_⟩, ⟨f0', f1', (sb.2 _ D.ez.symm).trans z', fz⟩, ?_, ?_, ?_, ?_⟩, fun c hcm => ?_⟩
    · have e1 : ((i + 1 : Nat) : Int) = (i : Int) + 1 := by omega
      rw [e1]; exact he'
    · exact (sb.2 _ D.eTI.symm).trans (hk _ _ D.eTI.symm D.Z.S.TIz D.Z.S.TITO D.Z.S.TIi1 D.Z.S.TIi2 hTI)
    · obtain ⟨b1, b2, hb⟩ := TO'
      exact ⟨b1, b2, (sb.2 _ D.eTO.symm).trans hb⟩
    · exact k1.it_at (of1 _ _ s1') fun o q => (sb.2 _ D.D.ei1.symm).trans q
    · exact k2.it_at (of2 _ _ s2') fun o q => (sb.2 _ D.D.ei2.symm).trans q
    · have hlt := old6 c hcm
      rw [upd_ne (Nat.ne_of_lt (Nat.lt_succ_of_lt hlt)), upd_ne (Nat.ne_of_lt hlt)]
      exact (hfp c hcm).1
  done := by
    intro X hP hw hK hc i pins s σ H E I hfp st hg
    subst hP hw hK
    obtain ⟨⟨old, he⟩, ⟨f0, f1, hz, hf⟩, hTI, ⟨x0, y0, hTO⟩, h1, h2⟩ := st
    obtain ⟨xs, ys, hqx, hqy, g1, g2, hend⟩ := hg
    have hd : X.A.in1.in1.handled = none := I.ok.hd hc
    obtain ⟨P1, St1, D1, to1, of1, r1⟩ := k1.draws X.A.in1.in1 I hd hqx i1 D.Z.n1
    obtain ⟨P2, St2, D2, to2, of2, r2⟩ := k2.draws X.A.in1.in1 I hd hqy i2 D.Z.n2
    exact enz_end D.D D1 D2 he hz hf hTI hTO (to1 i h1) (to2 i h2) g1 g2 (hend.imp Eq.symm Eq.symm) fun h' tk hk => ⟨rfl, I.turnedL (t' := tk) (ch := [e, z, TI, TO, i1, i2]) (fun c o hb q => by
      obtain ⟨a0, a1, a2, a3, a4, a5⟩ := nin6 hb
      exact hk c o a1 a3 a4 a5 q) hfp⟩
  self := fun A i s Q E st h => let ⟨⟨_, he⟩, _⟩ := st; wpAny_pyIter_enum he h
def iEZ (K : PySem.W.Frag) (ta : TA) : TI := fun σ H R => ta σ H fun vs H1 => ∃ v1 v2 k1 k2, vs = [v1, v2] ∧ SK.of K H1 v1 k1 ∧ SK.of K H1 v2 k2 ∧ R (ItEZ K k1 k2) H1
theorem ItEZ_eq {K : PySem.W.Frag} {k1 k2 k1' k2' : SK} (e1 : k1'.sem K = k1.sem K) (e2 : k2'.sem K = k2.sem K) : ItEZ K k1' k2' = ItEZ K k1 k2 := by
  unfold ItEZ; rw [e1, e2]
theorem pi_ez {X : Cx} {e e2 : Expr} {ta : TA} {p p2 pos pos2 tpos : Pos} {elts : List Expr} {kk : Nat} (hg0 : Gl X "enumerate") (hm0 : X.mg "enumerate" = none) (hg : Gl X "zip") (hm : X.mg "zip" = none) (ha : PA X [e, e2] ta)
    (hs : starEach [e, e2] X.env = (false, eval e X.env) :: starEach [e2] X.env) (hpl : (backTo pos2 (starEach [e2] X.env)).any (·.1) = false) :
    PI X (.Tuple elts kk tpos) (.Call (.Name "enumerate" p) [.Call (.Name "zip" p2) [e, e2] [] pos2] [] pos) (iEZ X.K ta) := by
  refine ⟨fun pins s σ H R I h => ?_⟩
  refine Call_ (ld_blt I hg0 hm0 boot_enumerate ?_)
  refine PyProof.Rows.callWith_type1 (PyProof.Rows.args_cons ?_ rfl) rfl rfl
  refine Call_ (ld_blt I hg hm PyProof.Rows.boot_zip (PyProof.Rows.callWith_type1 (thn (ha.run pos2 pins s σ H _ I h) fun us s1 ⟨vs, H1, I1, r1, q1⟩ => ?_) hs hpl))
  obtain ⟨v1, v2, k1, k2, rfl, o1, o2, q⟩ := q1
  cases r1 with
  | cons r rr =>
    cases rr with
    | cons r' rr =>
      cases rr
      obtain ⟨j1, e1, m1, xs, hx⟩ := SK.of_val o1 r
      obtain ⟨j2, e2', m2, ys, hy⟩ := SK.of_val o2 r'
      rw [← e1, ← e2']
      have hb1 := j1.below I1 hx
      have hb2 := j2.below I1 hy
      refine zip_begun I1 hx hy fun h' z TI TO i1 i2 D tn fr I2 hk => PyProof.Rows.args_nil ?_
      obtain ⟨hz, hTI, hTO, hi1, hi2⟩ := tn
      refine callType_new F.called_enumerate (by decide) (F.typeCall_enumerate_1 _) (F.newCall_enumerate_1 _) (fun obj => F.args_object_init_2 obj _) F.entry_enumerate_new (meets_enz z TI TO) ⟨hz, ?_⟩
      have up : ∀ c o, h'.get? c = some o → (enNew h' z).get? c = some o := fun c o x => Heap.get?_push_of_some _ x
      have he : IsEnum (enNew h' z) h'.objs.size z 0 .none := enNew_is
      have neq : ∀ b ∈ [z, TI, TO, i1, i2], h'.objs.size ≠ b := fun b hb => Nat.ne_of_gt (fr b hb).2
      have zlt := (fr z (by simp)).1
      have big : ∀ f : List Addr, (∀ b ∈ f, b < s1.heap.objs.size) → h'.objs.size ∉ f := fun f hf m => absurd (Nat.lt_trans (hf _ m) (Nat.lt_of_le_of_lt zlt (fr z (by simp)).2)) (Nat.lt_irrefl _)
      refine ⟨⟨_, he, rfl⟩, wpAny_pyIter_enum (s := { s1 with heap := enNew h' z }) he ?_⟩
      refine ⟨h'.objs.size, [h'.objs.size, z, TI, TO, i1, i2], _, _, H1, rfl, I2.kept (t' := s1.toks) up, turn_ez ⟨D, neq z (by simp), neq TI (by simp), neq TO (by simp), fun m => ?_, fun m => ?_⟩, ?_, fun c hc => ?_, ?_⟩
      · rcases List.mem_cons.mp m with w | w
        · exact neq i1 (by simp) w
        · exact big _ hb1 w
      · rcases List.mem_cons.mp m with w | w
        · exact neq i2 (by simp) w
        · exact big _ hb2 w
      · obtain ⟨x, y, hTO⟩ := hTO
        exact ⟨⟨_, he⟩, ⟨_, _, up _ _ hz, .inl rfl⟩, up _ _ hTI, ⟨x, y, up _ _ hTO⟩, j1.it_at hi1 fun o x => up _ o x, j2.it_at hi2 fun o x => up _ o x⟩
      · have hle : s1.heap.objs.size ≤ c := by
          rcases List.mem_cons.mp hc with w | w
          · rw [w]; exact Nat.le_trans zlt (Nat.le_of_lt (fr z (by simp)).2)
          · exact (fr c w).1
        exact I1.fpOk hle (I1.hok.fresh hle)
      · rw [ItEZ_eq m1 m2]
        exact q
end N
/-! N10: targets; what a loop walks. -/
namespace N
open PySem PySem.Spec PyProof.Rows L2
section
variable {w : Wd} {kc : Kc} {k : Nat} {X : Cx} {W : WX} {pv : V} {σa : En} {σ : L2.St} {H G H1 G1 : Hp} {F F1 : Fp} {E A B I T : Expr}
/-! ### targets -/
def WpG (X : Cx) (T : Expr) : TG := fun v σ H Q => ∀ pins s u, Inv X pins σ H s → RelV v u → wpAny (model X.prog X.w) X.A (assign T X.env u) (fun _ s' => ∃ σ' H', Inv X pins σ' H' s' ∧ Q σ' H') X.xe s
theorem pgW : PG X T (WpG X T) := ⟨fun pins s σ H v u Q I r h => h pins s u I r⟩
def WpGs (X : Cx) (Ts : List Expr) : TGs := fun vs σ H Q => ∀ pins s us, Inv X pins σ H s → Vals vs us → wpAny (model X.prog X.w) X.A (assignInOrder ((assignEach Ts X.env).map (·.2)) us) (fun _ s' => ∃ σ' H', Inv X pins σ' H' s' ∧ Q σ' H') X.xe s
theorem pgsW {Ts : List Expr} : PGs X Ts (WpGs X Ts) := ⟨fun pins s σ H v u Q I r h => h pins s u I r⟩
theorem ofPG {t : TG} (p : PG X T t) {v : V} {Q : L2.St → Hp → Prop} (h : t v σ H Q) : WpG X T v σ H Q := fun pins s u I r => p.run pins s σ H v u Q I r h
theorem ofPGs {Ts : List Expr} {t : TGs} (p : PGs X Ts t) {v : List V} {Q : L2.St → Hp → Prop} (h : t v σ H Q) : WpGs X Ts v σ H Q := fun pins s u I r => p.run pins s σ H v u Q I r h
theorem good_asg {es : List Expr} {env : PySem.Env} (g : goodE E = true) : assignEach (E :: es) env = (false, assign E env) :: assignEach es env := by
  cases E <;> first | rfl | cases g
theorem ckTs_good : ∀ {ts : List Tg} {Es : List Expr}, ckTs kc ts Es = true → Es.length = ts.length ∧ ∀ env, (assignEach Es env).length = ts.length ∧ (assignEach Es env).findIdx? (·.1) = none
  | [], [], _ => ⟨rfl, fun env => ⟨rfl, rfl⟩⟩
  | [], _ :: _, h => nomatch h
  | _ :: _, [], h => nomatch h
  | t :: ts, E :: Es, h => by
    have h' : (goodE E && (ckT kc t E && ckTs kc ts Es)) = true := h
    simp only [Bool.and_eq_true] at h'
    obtain ⟨i1, i2⟩ := ckTs_good h'.2.2
    refine ⟨by simp [i1], fun env => ?_⟩
    rw [good_asg h'.1]
    obtain ⟨j1, j2⟩ := i2 env
    refine ⟨by simp [j1], ?_⟩
    rw [List.findIdx?_cons, j2]
    rfl
theorem sto_of (c : Cok w kc k X W) {i : Nat} {x : Str} (h : kc.sto i x = true) : X.N[i]? = some x ∧ L2.Loc X.env.scope x ∧ (X.fn x = true ∨ X.env.scope.names.lookup x = some .local) := by
  unfold Kc.sto at h
  rw [Bool.and_eq_true] at h
  obtain ⟨h1, h2⟩ := h
  have e1 := of_decide_eq_true h1
  refine ⟨by rw [c.hN]; exact e1, ?_, ?_⟩
  · rw [c.hsc]
    unfold locB celB at h2
    unfold L2.Loc
    cases e : kc.sc.names.lookup x with
    | none => rw [e] at h2; cases h2
    | some q => rw [e] at h2; cases q <;> first | exact .inl rfl | exact .inr rfl | cases h2
  · rw [c.hsc, c.hfb]
    unfold locB celB at h2
    cases e : kc.sc.names.lookup x with
    | none => rw [e] at h2; cases h2
    | some q =>
      rw [e] at h2
      cases q <;> first | exact .inr rfl | (left; simpa using h2) | cases h2
theorem Step.same (h : ∀ i a, a ∈ F1 i → ∃ j, a ∈ F j) : Step w H G F H G F1 := (Step.refl w H G F).less h
/-- what is known behind a target's store -/
def TgK (w : Wd) (pv : V) (σa' : En) (σ : L2.St) (H G : Hp) (F : Fp) (inn : List Nat → Bool) (Q : L2.St → Hp → Prop) : Prop :=
  ∀ σ' F', StOk w pv σa' σ' H G F' → Step w H G F H G F' → (∀ own, inn own = true → L2.wipe σ' own = L2.wipe σ own) → Q σ' H
theorem wipe_set {i : Nat} {x : Option V} : ∀ {is : List Nat}, i ∈ is → L2.wipe (σ.set i x) is = L2.wipe σ is
  | j :: is, h => by
    unfold L2.wipe
    by_cases e : i = j
    · subst e
      by_cases m : i ∈ is
      · rw [wipe_set m]
      · have q : ∀ {ks : List Nat}, i ∉ ks → L2.wipe (σ.set i x) ks = (L2.wipe σ ks).set i x := by
          intro ks
          induction ks with
          | nil => intro _; rfl
          | cons a ks ih =>
            intro n
            unfold L2.wipe
            rw [ih fun z => n (List.mem_cons_of_mem _ z), List.set_comm _ _ (fun z => n (by simp [z]))]
        rw [q m, List.set_set]
    · rcases List.mem_cons.mp h with z | z
      · exact absurd z e
      · rw [wipe_set z]
mutual
theorem tgt (c : Cok w kc k X W) : ∀ {t : Tg} {T : Expr} {d : D} {v : V} {σa σa' : En} {σ : L2.St} {F : Fp} {Q : L2.St → Hp → Prop}, ckT kc t T = true → bindT t d σa = some σa' → StOk w pv σa σ H G F → Rp w.K G v d →
    TgK w pv σa' σ H G F (fun own => inT own t) Q → WpG X T v σ H Q
  | .n i, T, d, v, σa, σa', σ, F, Q, h, e, st, r, q => by
    cases T <;> try exact Bool.noConfusion h
    obtain ⟨h1, h2, h3⟩ := sto_of c h
    have hnd : X.N.Nodup := by rw [c.hN]; exact c.nd
    refine ofPG (pg_name hnd h1 h2 h3) ?_
    cases e
    obtain ⟨s1, s2⟩ := st.putD (i := i) r
    exact q _ _ s1 s2 fun own m => wipe_set (of_decide_eq_true m)
  | .t ts, T, d, v, σa, σa', σ, F, Q, h, e, st, r, q => by
    cases T <;> try exact Bool.noConfusion h
    rename_i Es ki pos
    have h' : ckTs kc ts Es = true := h
    obtain ⟨l1, l2⟩ := ckTs_good h'
    obtain ⟨l3, l4⟩ := l2 X.env
    refine ofPG (pg_tup c.calm pgsW l3 l4) ?_
    have e' : (match (generalizing := false) d with | .tuple xs => if xs.length = ts.length then bindTs ts xs σa else none | _ => none) = some σa' := e
    split at e'
    · rename_i ds
      split at e'
      · rename_i hl
        obtain ⟨a, xs, rfl, hs, rs⟩ := r.tup_inv
        refine ⟨a, xs, rfl, by rw [c.hK]; exact st.sub.sqT hs, by rw [rs.length, hl], ?_⟩
        exact tgts c h' e' st rs q
      · cases e'
    · cases e'
theorem tgts (c : Cok w kc k X W) : ∀ {ts : List Tg} {Ts : List Expr} {ds : List D} {vs : List V} {σa σa' : En} {σ : L2.St} {F : Fp} {Q : L2.St → Hp → Prop}, ckTs kc ts Ts = true → bindTs ts ds σa = some σa' → StOk w pv σa σ H G F → RpAll w.K G vs ds →
    TgK w pv σa' σ H G F (fun own => inTs own ts) Q → WpGs X Ts vs σ H Q
  | [], Ts, ds, vs, σa, σa', σ, F, Q, h, e, st, r, q => by
    cases Ts with
    | cons _ _ => exact Bool.noConfusion h
    | nil =>
      cases r with
      | cons _ _ => cases e
      | nil =>
        cases e
        exact ofPGs pgs_nil ⟨rfl, q σ F st (.refl ..) fun _ _ => rfl⟩
  | t :: ts, Ts, ds, vs, σa, σa', σ, F, Q, h, e, st, r, q => by
    cases Ts with
    | nil => exact Bool.noConfusion h
    | cons T Ts =>
      have h' : (goodE T && (ckT kc t T && ckTs kc ts Ts)) = true := h
      simp only [Bool.and_eq_true] at h'
      cases r with
      | nil => cases e
      | cons r rs =>
        have e' : (bindT t _ σa).bind (bindTs ts _) = some σa' := e
        obtain ⟨σ1, e1, e2⟩ := Option.bind_eq_some_iff.mp e'
        refine ofPGs (pgs_cons pgW pgsW (by rw [good_asg h'.1]; rfl)) ⟨_, _, rfl, tgt c h'.2.1 e1 st r fun σ2 F2 st2 s2 w2 => ?_⟩
        refine tgts c h'.2.2 e2 st2 rs fun σ3 F3 st3 s3 w3 => q σ3 F3 st3 (s2.trans s3) fun own m => ?_
        have m' : (inT own t && inTs own ts) = true := m
        rw [Bool.and_eq_true] at m'
        exact (w3 own m'.2).trans (w2 own m'.1)
end

/-! ### what is walked -/
/-- one item has come -/
def Yl (K : PySem.W.Frag) (G H : Hp) (v : V) (H' : Hp) (d : D) : Prop :=
  (H' = H ∧ Rp K G v d) ∨ (∃ T ys ds, v = .ref T ∧ H T = none ∧ H' = upd H T (.tup ys) ∧ RpAll K G ys ds ∧ d = .tuple ds) ∨
    ∃ T T2 n ys ds, v = .ref T2 ∧ H T = none ∧ H T2 = none ∧ T2 ≠ T ∧ H' = upd (upd H T (.tup ys)) T2 (.tup [.int n, .ref T]) ∧ RpAll K G ys ds ∧ d = .tuple [.int n, .tuple ds]
/-- from any heap that holds G it gives these items, one at a turn -/
def Wks (K : PySem.W.Frag) (G : Hp) (J : It) (xs : List D) : Prop := ∀ i H, Le G H →
  (i = xs.length → J.stop i H) ∧ ∀ d, xs[i]? = some d → J.go i H ∧ ∀ v H', J.yld i H v H' → Yl K G H v H' d
theorem Wks.mono {K : PySem.W.Frag} {J : It} {xs : List D} (h : Wks K G J xs) (l : Le G G1) : Wks K G1 J xs := fun i H l1 => by
  obtain ⟨a, b⟩ := h i H (l.trans l1)
  refine ⟨a, fun d e => ⟨(b d e).1, fun v H' y => ?_⟩⟩
  rcases (b d e).2 v H' y with ⟨e1, r⟩ | ⟨T, ys, ds, e1, e2, e3, e4, e5⟩ | ⟨T, T2, n, ys, ds, e1, e2, e3, e4, e5, e6, e7⟩
  · exact .inl ⟨e1, r.mono l⟩
  · exact .inr (.inl ⟨T, ys, ds, e1, e2, e3, e4.mono l, e5⟩)
  · exact .inr (.inr ⟨T, T2, n, ys, ds, e1, e2, e3, e4, e5, e6.mono l, e7⟩)
theorem StOk.yield {v : V} {H' : Hp} {d : D} {G0 : Hp} (st : StOk w pv σa σ H G F) (l : Le G0 G) (y : Yl w.K G0 H v H' d) : ∃ G', StOk w pv σa σ H' G' F ∧ Step w H G F H' G' F ∧ Rp w.K G' v d := by
  rcases y with ⟨rfl, r⟩ | ⟨T, ys, ds, rfl, hT, rfl, r, rfl⟩ | ⟨T, T2, n, ys, ds, rfl, hT, hT2, ne, rfl, r, rfl⟩
  · exact ⟨G, st, .refl .., r.mono l⟩
  · obtain ⟨s1, s2⟩ := st.alloc hT (.tup ys)
    exact ⟨_, s1, s2, rpTup (st.newNe hT).2.1 (r.mono l)⟩
  · obtain ⟨s1, s2⟩ := st.alloc hT (.tup ys)
    have hT2' : upd H T (.tup ys) T2 = none := by rw [upd_ne ne]; exact hT2
    obtain ⟨s3, s4⟩ := s1.alloc hT2' (.tup [.int n, .ref T])
    have r1 := rpTup (st.newNe hT).2.1 (r.mono l)
    exact ⟨_, s3, s2.trans s4, rpTup (s1.newNe hT2').2.1 (.cons (.int n) (.cons r1 .nil))⟩
theorem RpAll.at {K : PySem.W.Frag} {vs : List V} {ds : List D} (r : RpAll K G vs ds) {i : Nat} {d : D} (e : ds[i]? = some d) {v : V} (h : vs[i]? = some v) : Rp K G v d := by
  obtain ⟨v', h1, h2⟩ := r.get' e
  rw [h] at h1
  cases h1
  exact h2
theorem wks_list {K : PySem.W.Frag} {a : Addr} {vs : List V} {ds : List D} (h : SqL K G a vs) (r : RpAll K G vs ds) : Wks K G (Itl K a) ds := fun i H l => by
  have q := l.sqL h
  refine ⟨fun hi => ⟨vs, q, by rw [r.length, hi]; exact Nat.le_refl _⟩, fun d e => ?_⟩
  obtain ⟨v, h1, h2⟩ := r.get' e
  exact ⟨⟨vs, v, q, h1⟩, fun u H' ⟨e1, e2⟩ => .inl ⟨e1, r.at e (e2 vs q)⟩⟩
theorem wks_tup {K : PySem.W.Frag} {a : Addr} {vs : List V} {ds : List D} (h : SqT K G a vs) (r : RpAll K G vs ds) : Wks K G (Itt K a) ds := fun i H l => by
  have q := l.sqT h
  refine ⟨fun hi => ⟨vs, q, by rw [r.length, hi]; exact Nat.le_refl _⟩, fun d e => ?_⟩
  obtain ⟨v, h1, h2⟩ := r.get' e
  exact ⟨⟨vs, v, q, h1⟩, fun u H' ⟨e1, e2⟩ => .inl ⟨e1, r.at e (e2 vs q)⟩⟩
theorem wks_str {K : PySem.W.Frag} {x : Str} : Wks K G (Its x) (signsD x) := fun i H l => by
  have hl : (signsD x).length = x.cps.size := by simp [signsD]
  refine ⟨fun hi => by rw [hi, hl]; exact Nat.le_refl _, fun d e => ?_⟩
  unfold signsD at e
  rw [List.getElem?_map, Array.getElem?_toList] at e
  cases q : x.cps[i]? with
  | none => rw [q] at e; cases e
  | some c =>
    rw [q] at e
    cases e
    refine ⟨(Array.getElem?_eq_some_iff.mp q).1, fun v H' ⟨e1, c', e2, e3⟩ => .inl ⟨e1, ?_⟩⟩
    rw [q] at e2
    cases e2
    rw [e3]
    exact .str _
theorem rangeD_get : ∀ {n : Nat} {lo : Int} {i : Nat} {d : D}, (rangeD lo n)[i]? = some d → i < n ∧ d = .int (lo + i)
  | 0, lo, i, d, h => by cases h
  | n + 1, lo, 0, d, h => by
    have h' : some (PyData.int lo) = some d := h
    cases h'
    exact ⟨Nat.succ_pos _, by simp⟩
  | n + 1, lo, i + 1, d, h => by
    have h' : (rangeD (lo + 1) n)[i]? = some d := h
    obtain ⟨h1, h2⟩ := rangeD_get h'
    refine ⟨Nat.succ_lt_succ h1, ?_⟩
    rw [h2]
    congr 1
    omega
theorem rangeD_len : ∀ {n : Nat} {lo : Int}, (rangeD lo n).length = n
  | 0, _ => rfl
  | n + 1, lo => by unfold rangeD; rw [List.length_cons, rangeD_len]
theorem wks_range {K : PySem.W.Frag} {lo : Int} {n : Nat} : Wks K G (Itr lo n) (rangeD lo n) := fun i H l => by
  refine ⟨fun hi => by rw [hi, rangeD_len]; exact Nat.le_refl _, fun d e => ?_⟩
  obtain ⟨h1, h2⟩ := rangeD_get e
  refine ⟨h1, fun v H' ⟨e1, e2⟩ => .inl ⟨e1, ?_⟩⟩
  rw [h2, e2]
  exact .int _
theorem enumD_get : ∀ {xs : List D} {n i : Nat} {d : D}, (enumD n xs)[i]? = some d → ∃ x, xs[i]? = some x ∧ d = .tuple [.int ((n + i : Nat) : Int), x]
  | [], n, i, d, h => by cases h
  | x :: xs, n, 0, d, h => by
    have h' : some (PyData.tuple [.int n, x]) = some d := h
    cases h'
    exact ⟨x, rfl, by simp⟩
  | x :: xs, n, i + 1, d, h => by
    have h' : (enumD (n + 1) xs)[i]? = some d := h
    obtain ⟨y, h1, h2⟩ := enumD_get h'
    refine ⟨y, h1, ?_⟩
    rw [h2]
    congr 3
    omega
theorem enumD_len : ∀ {xs : List D} {n : Nat}, (enumD n xs).length = xs.length
  | [], _ => rfl
  | x :: xs, n => by unfold enumD; rw [List.length_cons, enumD_len, List.length_cons]
/-- a value that can be walked -/
theorem walkable {K : PySem.W.Frag} {v : V} {d : D} {ds : List D} (r : Rp K G v d) (e : itemsD d = some ds) : ∃ k : SK, (∀ {H}, Le G H → k.of K H v) ∧ ∃ vs, (∀ {H}, Le G H → k.sem K H vs) ∧ RpAll K G vs ds := by
  cases d with
  | list xs =>
    cases e
    obtain ⟨a, vs, rfl, h, rs⟩ := r.lst_inv
    exact ⟨.lst a, fun l => ⟨rfl, _, l.sqL h⟩, vs, fun l => l.sqL h, rs⟩
  | tuple xs =>
    cases e
    obtain ⟨a, vs, rfl, h, rs⟩ := r.tup_inv
    exact ⟨.tup a, fun l => ⟨rfl, _, l.sqT h⟩, vs, fun l => l.sqT h, rs⟩
  | str x =>
    cases e
    refine ⟨.txt x 0, fun _ => by rw [r.str_inv]; exact rfl, _, fun _ => rfl, ?_⟩
    unfold signsD
    generalize x.cps.toList = cs
    induction cs with
    | nil => exact .nil
    | cons c cs ih => exact .cons (.str _) ih
  | _ => cases e
theorem wks_enumS {K : PySem.W.Frag} {k : SK} {vs : List V} {ds : List D} (h : ∀ {H}, Le G H → k.sem K H vs) (r : RpAll K G vs ds) : Wks K G (IteS K k) (enumD 0 ds) := fun i H l => by
  have q := h l
  refine ⟨fun hi => ⟨vs, q, by rw [r.length, hi, enumD_len]⟩, fun d e => ?_⟩
  obtain ⟨x, ex, rfl⟩ := enumD_get e
  obtain ⟨v, h1, h2⟩ := r.get' ex
  refine ⟨⟨vs, v, q, h1⟩, fun u H' ⟨T, y, e1, e2, e3, e4⟩ => .inr (.inl ⟨T, _, _, e1, e2, e3, ?_, rfl⟩)⟩
  rw [Nat.zero_add]
  exact .cons (.int _) (.cons (r.at ex (e4 vs q)) .nil)
theorem zipD_get : ∀ {xs ys : List D} {i : Nat} {d : D}, (zipD xs ys)[i]? = some d → ∃ x y, xs[i]? = some x ∧ ys[i]? = some y ∧ d = .tuple [x, y]
  | [], ys, i, d, h => by simp [zipD] at h
  | x :: xs, [], i, d, h => by simp [zipD] at h
  | x :: xs, y :: ys, 0, d, h => by
    have h' : some (PyData.tuple [x, y]) = some d := h
    cases h'
    exact ⟨x, y, rfl, rfl, rfl⟩
  | x :: xs, y :: ys, i + 1, d, h => by
    have h' : (zipD xs ys)[i]? = some d := h
    obtain ⟨a, b, h1, h2, h3⟩ := zipD_get h'
    exact ⟨a, b, h1, h2, h3⟩
theorem zipD_end : ∀ {xs ys : List D} {i : Nat}, (zipD xs ys).length ≤ i → xs.length ≤ i ∨ ys.length ≤ i
  | [], ys, i, h => .inl (Nat.zero_le _)
  | x :: xs, [], i, h => .inr (Nat.zero_le _)
  | x :: xs, y :: ys, 0, h => by simp [zipD] at h
  | x :: xs, y :: ys, i + 1, h => by
    have h' : (zipD xs ys).length ≤ i := Nat.le_of_succ_le_succ h
    rcases zipD_end h' with z | z
    · exact .inl (Nat.succ_le_succ z)
    · exact .inr (Nat.succ_le_succ z)
theorem zipD_len : ∀ {xs ys : List D}, (zipD xs ys).length ≤ xs.length ∧ (zipD xs ys).length ≤ ys.length ∧ (xs.length = (zipD xs ys).length ∨ ys.length = (zipD xs ys).length)
  | [], ys => by simp [zipD]
  | x :: xs, [] => by simp [zipD]
  | x :: xs, y :: ys => by
    obtain ⟨a, b, c⟩ := zipD_len (xs := xs) (ys := ys)
    show (zipD xs ys).length + 1 ≤ xs.length + 1 ∧ (zipD xs ys).length + 1 ≤ ys.length + 1 ∧ (xs.length + 1 = (zipD xs ys).length + 1 ∨ ys.length + 1 = (zipD xs ys).length + 1)
    omega
theorem wks_zipS {K : PySem.W.Frag} {k1 k2 : SK} {vs us : List V} {ds es : List D} (h : ∀ {H}, Le G H → k1.sem K H vs) (r : RpAll K G vs ds) (h' : ∀ {H}, Le G H → k2.sem K H us) (r' : RpAll K G us es) : Wks K G (ItzS K k1 k2) (zipD ds es) := fun i H l => by
  have q := h l
  have q' := h' l
  refine ⟨fun hi => ⟨vs, us, q, q', by rw [r.length, r'.length, hi]; exact zipD_len⟩, fun d e => ?_⟩
  obtain ⟨x, y, ex, ey, rfl⟩ := zipD_get e
  obtain ⟨v, h1, _⟩ := r.get' ex
  obtain ⟨u, h2, _⟩ := r'.get' ey
  exact ⟨⟨vs, us, v, u, q, q', h1, h2⟩, fun z H' ⟨T, x', y', e1, e2, e3, e4, e5⟩ => .inr (.inl ⟨T, _, _, e1, e2, e3, .cons (r.at ex (e4 vs q)) (.cons (r'.at ey (e5 us q')) .nil), rfl⟩)⟩
theorem wks_ez {K : PySem.W.Frag} {k1 k2 : SK} {vs us : List V} {ds es : List D} (h : ∀ {H}, Le G H → k1.sem K H vs) (r : RpAll K G vs ds) (h' : ∀ {H}, Le G H → k2.sem K H us) (r' : RpAll K G us es) : Wks K G (ItEZ K k1 k2) (enumD 0 (zipD ds es)) := fun i H l => by
  have q := h l
  have q' := h' l
  refine ⟨fun hi => ⟨vs, us, q, q', by rw [r.length, r'.length, hi, enumD_len]; exact zipD_len⟩, fun d e => ?_⟩
  obtain ⟨z, ez, rfl⟩ := enumD_get e
  obtain ⟨x, y, ex, ey, rfl⟩ := zipD_get ez
  obtain ⟨v, h1, _⟩ := r.get' ex
  obtain ⟨u, h2, _⟩ := r'.get' ey
  refine ⟨⟨vs, us, v, u, q, q', h1, h2⟩, fun z H' ⟨T, T2, x', y', e1, e2, e3, e4, e5, e6, e7⟩ => .inr (.inr ⟨T, T2, _, _, _, e1, e2, e3, e4, e5, .cons (r.at ex (e6 vs q)) (.cons (r'.at ey (e7 us q')) .nil), ?_⟩)⟩
  rw [Nat.zero_add]

def WpI (X : Cx) (T E : Expr) : TI := fun σ H R => ∀ pins s, Inv X pins σ H s → wpAny (model X.prog X.w) X.A (eval E X.env) (fun v s1 => wpAny (model X.prog X.w) X.A (pyIter v) (PIE X pins σ T R) X.xe s1) X.xe s
theorem piW : PI X T E (WpI X T E) := ⟨fun pins s σ H R I h => h pins s I⟩
theorem ofPI {t : TI} (p : PI X T E t) {R : It → Hp → Prop} (h : t σ H R) : WpI X T E σ H R := fun pins s I => p.run pins s σ H R I h
def KI (w : Wd) (pv : V) (σ : L2.St) (R : It → Hp → Prop) : Ko (List D × En) := fun p H' G' F' => StOk w pv p.2 σ H' G' F' → ∀ J, Wks w.K G' J p.1 → R J H'
def SI (w : Wd) (X : Cx) (W : WX) (T E : Expr) (f : En → Res (List D × En)) : Prop := ∀ (pv : V) (σa : En) (σ : L2.St) (H G : Hp) (F : Fp) (R : It → Hp → Prop), StOk w pv σa σ H G F → Post w H G F (f σa) (KI w pv σ R) (KX w W σ) → WpI X T E σ H R
def SndI (w : Wd) (it : Ir) : Prop := ∀ {kc k X W T E}, Cok w kc k X W → ckI it kc T E = true → SI w X W T E (smI w.P.C (callF w.P k) it) ∧ goodE E = true
theorem sndI_of {e : Ex} (he : Snd w e) : SndI w (.of e) := fun {kc k X W T E} c h => by
  have h' : (ck e).e kc E = true := h
  refine ⟨fun pv σa σ H G F R st p => ?_, ck_good h'⟩
  have p' : Post w H G F (((sm w.P.C (callF w.P k) e).v σa).bind fun p => (ofO (itemsD p.1)).bind fun xs => .ok (xs, p.2)) (KI w pv σ R) (KX w W σ) := p
  cases hr : (sm w.P.C (callF w.P k) e).v σa with
  | bad => rw [hr] at p'; exact p'.elim
  | exc cc =>
    refine ofPI (pi_str peW) (he.v c h' pv σa σ H G F _ st ?_)
    rw [hr] at p' ⊢
    exact p'
  | ok q =>
    have key : ∀ {Q : VK}, (∀ H1 G1 F1, Step w H G F H1 G1 F1 → Post w H1 G1 F1 ((ofO (itemsD q.1)).bind fun xs => .ok (xs, q.2)) (KI w pv σ R) (KX w W σ) → StOk w pv q.2 σ H1 G1 F1 → ∀ v, Rp w.K G1 v q.1 → Q v H1) → WpE X E σ H Q := fun {Q} i =>
      he.v c h' pv σa σ H G F _ st (Post.then p' fun q1 H1 G1 F1 e1 s1 z st1 v rv => by
        rw [hr] at e1
        cases e1
        exact i H1 G1 F1 s1 z st1 v rv)
    cases hq : q.1 with
    | list ds =>
      refine ofPI (pi_list peW) (key fun H1 G1 F1 s1 z st1 v rv => ?_)
      rw [hq] at rv z
      obtain ⟨a, vs, rfl, h1, h2⟩ := rv.lst_inv
      rw [c.hK]
      exact ⟨a, rfl, ⟨vs, st1.sub.sqL h1⟩, z.here st1 _ (wks_list h1 h2)⟩
    | tuple ds =>
      refine ofPI (pi_tup peW) (key fun H1 G1 F1 s1 z st1 v rv => ?_)
      rw [hq] at rv z
      obtain ⟨a, vs, rfl, h1, h2⟩ := rv.tup_inv
      rw [c.hK]
      exact ⟨a, rfl, ⟨vs, st1.sub.sqT h1⟩, z.here st1 _ (wks_tup h1 h2)⟩
    | str x =>
      refine ofPI (pi_str peW) (key fun H1 G1 F1 s1 z st1 v rv => ?_)
      rw [hq] at rv z
      exact ⟨x, rv.str_inv, z.here st1 _ wks_str⟩
    | none => rw [hr] at p'; simp only [ok_bind, hq] at p'; exact p'.elim
    | bool _ => rw [hr] at p'; simp only [ok_bind, hq] at p'; exact p'.elim
    | int _ => rw [hr] at p'; simp only [ok_bind, hq] at p'; exact p'.elim
    | dict _ => rw [hr] at p'; simp only [ok_bind, hq] at p'; exact p'.elim
theorem rOk_of {i : Int} (h : rOk i = true) : -(2 ^ 62) ≤ i ∧ i < 2 ^ 62 := by
  have := inB_of (k := 4611686018427387903) h
  constructor <;> omega
theorem sndI_range1 {a : Ex} (ha : Snd w a) : SndI w (.range1 a) := fun {kc k X W T E} c h => by
  have h' : (match (generalizing := false) E with
    | .Call (.Name x _) [A] [] _ => (decide (x = "range") && kc.gl x) && (ck a).e kc A
    | _ => false) = true := h
  split at h'
  · rename_i x p A pos
    simp only [Bool.and_eq_true, decide_eq_true_eq] at h'
    obtain ⟨⟨h1, h2⟩, h3⟩ := h'
    subst h1
    obtain ⟨gx, ok⟩ := gl_of c h2
    refine ⟨fun pv σa σ H G F R st pp => ?_, rfl⟩
    refine ofPI (pi_range1 gx (c.mgs.blt _ (by decide +kernel)) (pa_cons peW pa_nil (good_star (ck_good h3))) (good_star (ck_good h3))) (ha.v c h3 pv σa σ H G F _ st (Post.then pp fun q H1 G1 F1 _ _ z st1 v rv => ?_))
    split at z
    · rename_i j ej
      rw [ej] at rv
      split at z
      · rename_i hr
        obtain ⟨r1, r2⟩ := rOk_of hr
        exact ⟨j, by rw [rv.int_inv], r1, r2, z.here st1 _ wks_range⟩
      · exact z.elim
    · exact z.elim
  · cases h'
theorem sndI_range2 {a b : Ex} (ha : Snd w a) (hb : Snd w b) : SndI w (.range2 a b) := fun {kc k X W T E} c h => by
  have h' : (match (generalizing := false) E with
    | .Call (.Name x _) [A, B] [] _ => (decide (x = "range") && kc.gl x) && ((ck a).e kc A && (ck b).e kc B)
    | _ => false) = true := h
  split at h'
  · rename_i x p A B pos
    simp only [Bool.and_eq_true, decide_eq_true_eq] at h'
    obtain ⟨⟨h1, h2⟩, h3, h4⟩ := h'
    subst h1
    obtain ⟨gx, ok⟩ := gl_of c h2
    refine ⟨fun pv σa σ H G F R st pp => ?_, rfl⟩
    have sB : starEach [B] X.env = [(false, eval B X.env)] := good_star (ck_good h4)
    refine ofPI (pi_range2 gx (c.mgs.blt _ (by decide +kernel)) (pa_cons peW (pa_cons peW pa_nil sB) (good_star (ck_good h3))) (by rw [good_star (ck_good h3)]; rw [sB]) sB) (ha.v c h3 pv σa σ H G F _ st (Post.then pp fun q H1 G1 F1 _ _ z st1 v rv => hb.v c h4 pv _ σ H1 G1 F1 _ st1 (Post.then z fun q2 H2 G2 F2 _ s2 z2 st2 u ru => ?_)))
    split at z2
    · rename_i i j ei ej
      rw [ei] at rv
      rw [ej] at ru
      split at z2
      · rename_i hr
        rw [Bool.and_eq_true] at hr
        obtain ⟨r1, r2⟩ := rOk_of hr.1
        obtain ⟨r3, r4⟩ := rOk_of hr.2
        exact ⟨i, j, by rw [rv.int_inv, ru.int_inv], ⟨r1, r2, r3, r4⟩, z2.here st2 _ wks_range⟩
      · exact z2.elim
    · exact z2.elim
  · cases h'
theorem isTup_of (h : isTup T = true) : ∃ Es kk tpos, T = .Tuple Es kk tpos := by
  cases T <;> first | exact ⟨_, _, _, rfl⟩ | cases h
theorem sndI_zip {a b : Ex} (ha : Snd w a) (hb : Snd w b) : SndI w (.zip a b) := fun {kc k X W T E} c h => by
  have h' : (match (generalizing := false) E with
    | .Call (.Name x _) [A, B] [] _ => (isTup T && (decide (x = "zip") && kc.gl x)) && ((ck a).e kc A && (ck b).e kc B)
    | _ => false) = true := h
  split at h'
  · rename_i x p A B pos
    simp only [Bool.and_eq_true, decide_eq_true_eq] at h'
    obtain ⟨⟨h0, h1, h2⟩, h3, h4⟩ := h'
    subst h1
    obtain ⟨Es, kk, tpos, rfl⟩ := isTup_of h0
    obtain ⟨gx, ok⟩ := gl_of c h2
    refine ⟨fun pv σa σ H G F R st pp => ?_, rfl⟩
    have sB : starEach [B] X.env = [(false, eval B X.env)] := good_star (ck_good h4)
    refine ofPI (pi_zipS gx (c.mgs.blt _ (by decide +kernel)) (pa_cons peW (pa_cons peW pa_nil sB) (good_star (ck_good h3))) (good_star (ck_good h3)) (by rw [sB]; rfl)) (ha.v c h3 pv σa σ H G F _ st (Post.then pp fun q H1 G1 F1 _ _ z st1 v rv => hb.v c h4 pv _ σ H1 G1 F1 _ st1 (Post.then z fun q2 H2 G2 F2 _ s2 z2 st2 u ru => ?_)))
    obtain ⟨xs, ex, z3⟩ := z2.ofO
    obtain ⟨ys, ey, z4⟩ := z3.ofO
    obtain ⟨k1, o1, vs, m1, r1⟩ := walkable (rv.mono s2.gle) ex
    obtain ⟨k2, o2, us, m2, r2⟩ := walkable ru ey
    rw [c.hK]
    exact ⟨v, u, k1, k2, rfl, o1 st2.sub, o2 st2.sub, z4.here st2 _ (wks_zipS m1 r1 m2 r2)⟩
  · cases h'
theorem sndI_enum {a : Ex} (ha : Snd w a) : SndI w (.enum a) := fun {kc k X W T E} c h => by
  have h' : (match (generalizing := false) E with
    | .Call (.Name x _) [A] [] _ => (isTup T && (decide (x = "enumerate") && kc.gl x)) && (ck a).e kc A
    | _ => false) = true := h
  split at h'
  · rename_i x p A pos
    simp only [Bool.and_eq_true, decide_eq_true_eq] at h'
    obtain ⟨⟨h0, h1, h2⟩, h3⟩ := h'
    subst h1
    obtain ⟨Es, kk, tpos, rfl⟩ := isTup_of h0
    obtain ⟨gx, ok⟩ := gl_of c h2
    refine ⟨fun pv σa σ H G F R st pp => ?_, rfl⟩
    refine ofPI (pi_enumS gx (c.mgs.blt _ (by decide +kernel)) (pa_cons peW pa_nil (good_star (ck_good h3))) (good_star (ck_good h3))) (ha.v c h3 pv σa σ H G F _ st (Post.then pp fun q H1 G1 F1 _ _ z st1 v rv => ?_))
    obtain ⟨xs, ex, z3⟩ := z.ofO
    obtain ⟨k1, o1, vs, m1, r1⟩ := walkable rv ex
    rw [c.hK]
    exact ⟨v, k1, rfl, o1 st1.sub, z3.here st1 _ (wks_enumS m1 r1)⟩
  · cases h'
theorem sndI_enumz {a b : Ex} (ha : Snd w a) (hb : Snd w b) : SndI w (.enumz a b) := fun {kc k X W T E} c h => by
  have h' : (match (generalizing := false) E with
    | .Call (.Name x _) [.Call (.Name y _) [A, B] [] _] [] _ => (isTup T && ((decide (x = "enumerate") && kc.gl x) && (decide (y = "zip") && kc.gl y))) && ((ck a).e kc A && (ck b).e kc B)
    | _ => false) = true := h
  split at h'
  · rename_i x p y p2 A B pos2 pos
    simp only [Bool.and_eq_true, decide_eq_true_eq] at h'
    obtain ⟨⟨h0, ⟨h1, h2⟩, h5, h6⟩, h3, h4⟩ := h'
    subst h1
    subst h5
    obtain ⟨Es, kk, tpos, rfl⟩ := isTup_of h0
    obtain ⟨gx, ok⟩ := gl_of c h2
    obtain ⟨gy, oy⟩ := gl_of c h6
    refine ⟨fun pv σa σ H G F R st pp => ?_, rfl⟩
    have sB : starEach [B] X.env = [(false, eval B X.env)] := good_star (ck_good h4)
    refine ofPI (pi_ez gx (c.mgs.blt _ (by decide +kernel)) gy (c.mgs.blt _ (by decide +kernel)) (pa_cons peW (pa_cons peW pa_nil sB) (good_star (ck_good h3))) (good_star (ck_good h3)) (by rw [sB]; rfl)) (ha.v c h3 pv σa σ H G F _ st (Post.then pp fun q H1 G1 F1 _ _ z st1 v rv => hb.v c h4 pv _ σ H1 G1 F1 _ st1 (Post.then z fun q2 H2 G2 F2 _ s2 z2 st2 u ru => ?_)))
    obtain ⟨xs, ex, z3⟩ := z2.ofO
    obtain ⟨ys, ey, z4⟩ := z3.ofO
    obtain ⟨k1, o1, vs, m1, r1⟩ := walkable (rv.mono s2.gle) ex
    obtain ⟨k2, o2, us, m2, r2⟩ := walkable ru ey
    rw [c.hK]
    exact ⟨v, u, k1, k2, rfl, o1 st2.sub, o2 st2.sub, z4.here st2 _ (wks_ez m1 r1 m2 r2)⟩
  · cases h'
end
end N
/-! N11: list comprehensions; every expression does what sm says. -/
namespace N
open PySem PySem.Spec PyProof.Rows L2
section
variable {w : Wd} {kc : Kc} {k : Nat} {X : Cx} {W : WX} {pv : V} {σa : En} {σ : L2.St} {H G H1 G1 H2 G2 : Hp} {F F1 F2 : Fp} {E A B I T : Expr}
def noW : WX := fun _ _ _ _ => False
theorem kx_no {σ : L2.St} : KX w noW σ = fun _ _ => False := rfl
/-- the context of a comprehension's block -/
theorem Cok.blk (c : Cok w kc k X W) (s : Shared) (H : Hp) (scope : Scope) (cl : List (Str × Addr)) (C : Addr) (fp : List Addr) : Cok w (kc.blk scope) k (X.blk s H scope (compEnvC scope cl C X.env) fp) noW where
  hN := c.hN
  nd := c.nd
  hsc := by show relS scope X.env.scope = relS scope kc.sc; rw [c.hsc]
  hfb := rfl
  hP := c.hP
  calm := c.calm
  room := c.room
  hK := c.hK
  takes := takes0
  fns := c.fns
  mgs := c.mgs
  cod := c.cod
/-! ### a clause's tests -/
def WpTs (X : Cx) (Cs : List Expr) : TT := fun σ H Q => ∀ pins s, Inv X pins σ H s →
  wpAny (model X.prog X.w) X.A (forIn Cs true fun c r => if r = true then do let ok ← isTrue c X.env (eval c X.env); pure (ForInStep.yield ok) else pure (ForInStep.yield r)) (TP X pins σ Q) X.xe s
theorem ptsW {Cs : List Expr} : PTs X Cs (WpTs X Cs) := ⟨fun pins s σ H Q I h => h pins s I⟩
theorem ofPTs {Cs : List Expr} {t : TT} (p : PTs X Cs t) {Q : Bool → Hp → Prop} (h : t σ H Q) : WpTs X Cs σ H Q := fun pins s I => p.run pins s σ H Q I h
def STs (w : Wd) (X : Cx) (W : WX) (Cs : List Expr) (f : En → Res (Bool × En)) : Prop := ∀ (pv : V) (σa : En) (σ : L2.St) (H G : Hp) (F : Fp) (Q : Bool → Hp → Prop), StOk w pv σa σ H G F → Post w H G F (f σa) (KT w pv σ Q) (KX w W σ) → WpTs X Cs σ H Q
def SndC (w : Wd) (cs : OEx) : Prop := ∀ {kc k X W Cs}, Cok w kc k X W → ckC cs kc Cs = true → STs w X W Cs (smC w.P.C (callF w.P k) cs)
theorem sndC_no : SndC w .no := fun {kc k X W Cs} c h => by
  cases Cs with
  | cons _ _ => exact Bool.noConfusion h
  | nil => exact fun pv σa σ H G F Q st p => ofPTs pts_nil (p.here st)
theorem sndC_so {e : Ex} (he : Snd w e) : SndC w (.so e) := fun {kc k X W Cs} c h => by
  cases Cs with
  | nil => exact Bool.noConfusion h
  | cons A r =>
    cases r with
    | cons _ _ => exact Bool.noConfusion h
    | nil => exact fun pv σa σ H G F Q st p => ofPTs (pts_one ptW) (he.t c h pv σa σ H G F Q st p)
/-! ### a list that grows beside the slots -/
theorem StOk.atD (st : StOk w pv σa σ H G F) {D : Addr} {o : HO} (g : G D = none) (n : ∀ i, D ∉ F i) (t : ∀ p ∈ w.tabs, p.2 ≠ D) : StOk w pv σa σ (upd H D o) G F := by
  have ne : ∀ i, ∀ a ∈ F i, a ≠ D := fun i a m z => n i (by rw [← z]; exact m)
  refine ⟨st.len, fun a u e => ?_, fun i x e => (st.slot i x e).mono (.refl G) fun a m => upd_ne (ne i a m), st.disj, st.free, fun i a m => ?_, fun q hq => ⟨tabG_upd (st.tab q hq).1 (t q hq), (st.tab q hq).2⟩⟩
  · by_cases z : a = D
    · rw [z, g] at e; cases e
    · rw [upd_ne z]; exact st.sub a u e
  · rw [upd_ne (ne i a m)]; exact st.there i a m
theorem Step.atD (s : Step w H G F H1 G1 F1) {D : Addr} {o : HO} (n : H D = none) (t : ∀ p ∈ w.tabs, p.2 ≠ D) : Step w H G F (upd H1 D o) G1 F1 := by
  refine ⟨s.gle, fun a u e h h' => ?_, s.fresh, fun p hp h => ?_⟩
  · have z : a ≠ D := fun z => by rw [z, n] at e; cases e
    rw [upd_ne z]; exact s.keep a u e h h'
  · rw [upd_ne (t p hp)]; exact s.tabk p hp h
/-- frozen at last -/
theorem StOk.frz (st : StOk w pv σa σ H G F) {D : Addr} {o : HO} (e : H D = some o) (g : G D = none) (n : ∀ i, D ∉ F i) (t : ∀ p ∈ w.tabs, p.2 ≠ D) : StOk w pv σa σ H (upd G D o) F := by
  have ne : ∀ i, ∀ a ∈ F i, a ≠ D := fun i a m z => n i (by rw [← z]; exact m)
  refine ⟨st.len, fun a u e' => ?_, fun i x h => (st.slot i x h).mono (Le.upd g) fun a m => rfl, st.disj, fun i a m => ?_, st.there, fun q hq => ⟨(st.tab q hq).1, by rw [upd_ne (t q hq)]; exact (st.tab q hq).2⟩⟩
  · by_cases z : a = D
    · rw [z, upd_same] at e'; rw [z, e]; exact e'
    · rw [upd_ne z] at e'; exact st.sub a u e'
  · rw [upd_ne (ne i a m)]; exact st.free i a m
theorem Step.frz (s : Step w H G F H1 G1 F1) {D : Addr} {o : HO} (n : H D = none) (g : G1 D = none) : Step w H G F H1 (upd G1 D o) F1 := by
  refine ⟨s.gle.trans (Le.upd g), fun a u e h h' => ?_, s.fresh, s.tabk⟩
  have z : a ≠ D := fun z => by rw [z, n] at e; cases e
  rw [upd_ne z]; exact s.keep a u e h h'
/-- what stands beside the slots stays -/
theorem Step.apart (s : Step w H G F H1 G1 F1) {D : Addr} {o : HO} (e : H D = some o) (g : G D = none) (n : ∀ i, D ∉ F i) (t : ∀ p ∈ w.tabs, p.2 ≠ D) : H1 D = some o ∧ G1 D = none ∧ ∀ i, D ∉ F1 i := by
  obtain ⟨a, b⟩ := s.keep D o e n t
  refine ⟨a, b g, fun i m => ?_⟩
  rcases s.fresh i D m with ⟨j, q⟩ | q
  · exact n j q
  · rw [e] at q; cases q
/-- at a turn of a comprehension: from (H0, G0, F0), D the new list, σc the slots, acc what it holds -/
structure AccI (w : Wd) (pv : V) (D : Addr) (H0 G0 : Hp) (F0 : Fp) (σa : En) (σc : L2.St) (acc : List PyData) (H G : Hp) (F : Fp) (accV : List V) : Prop where
  step : Step w H0 G0 F0 H G F
  st : StOk w pv σa σc H G F
  hD : H D = some (.lst accV)
  rp : RpAll w.K G accV acc
  gD : G D = none
  fD : ∀ i, D ∉ F i
section
variable {D : Addr} {H0 G0 : Hp} {F0 : Fp} {σc σd : L2.St} {acc : List PyData} {accV : List V} {σb : En}
theorem AccI.go (a : AccI w pv D H0 G0 F0 σa σc acc H G F accV) (t : ∀ p ∈ w.tabs, p.2 ≠ D) (s : Step w H G F H1 G1 F1) (st : StOk w pv σb σd H1 G1 F1) : AccI w pv D H0 G0 F0 σb σd acc H1 G1 F1 accV := by
  obtain ⟨z1, z2, z3⟩ := s.apart a.hD a.gD a.fD t
  exact ⟨a.step.trans s, st, z1, a.rp.mono s.gle, z2, z3⟩
theorem AccI.wipe (a : AccI w pv D H0 G0 F0 σa σc acc H G F accV) (own : List Nat) : AccI w pv D H0 G0 F0 (wipeE σa own) (L2.wipe σc own) acc H G (wipeF F own) accV :=
  ⟨a.step.less wipeF_less, a.st.wipeB own, a.hD, a.rp, a.gD, fun i m => by obtain ⟨j, q⟩ := wipeF_less i D m; exact a.fD j q⟩
theorem AccI.push (a : AccI w pv D H0 G0 F0 σa σc acc H G F accV) (t : ∀ p ∈ w.tabs, p.2 ≠ D) (n : H0 D = none) {v : V} {x : PyData} (r : Rp w.K G v x) : AccI w pv D H0 G0 F0 σa σc (acc ++ [x]) (upd H D (.lst (accV ++ [v]))) G F (accV ++ [v]) :=
  ⟨a.step.atD n t, a.st.atD a.gD a.fD t, upd_same, a.rp.append (.cons r .nil), a.gD, a.fD⟩
end
theorem listL_step {f : PyData → En → Res (Option PyData × En)} {x : PyData} {xs : List PyData} {σa : En} {acc : List PyData} {res : List PyData × En} (h : listL f (x :: xs) σa acc = .ok res) :
    ∃ p, f x σa = .ok p ∧ ((∃ y, p.1 = some y ∧ acc.length < LINE ∧ listL f xs p.2 (acc ++ [y]) = .ok res) ∨ (p.1 = none ∧ listL f xs p.2 acc = .ok res)) := by
  obtain ⟨p, e, h⟩ := bind_ok (show (f x σa).bind _ = _ from h)
  refine ⟨p, e, ?_⟩
  cases hp : p.1 with
  | none => rw [hp] at h; exact .inr ⟨rfl, h⟩
  | some y =>
    rw [hp] at h
    simp only at h
    split at h
    · rename_i hl
      exact .inl ⟨y, rfl, hl, h⟩
    · cases h
theorem ofO_ok {α : Type} {o : Option α} {a : α} (h : ofO o = .ok a) : o = some a := by
  cases o with
  | none => cases h
  | some b => cases h; rfl
/-- what one turn of a comprehension computes -/
def turnL (C : List (Str × PyData)) (fn : Fns) (elt : Ex) (tg : Tg) (cs : OEx) (own : List Nat) : PyData → En → Res (Option PyData × En) := fun x σ => (ofO (bindT tg x σ)).bind fun σ1 => (smC C fn cs σ1).bind fun p => match p.1 with
  | true => ((sm C fn elt).v p.2).bind fun q => .ok (some q.1, wipeE q.2 own)
  | false => .ok (none, wipeE p.2 own)
/-- one turn: from an item that has come, through target, tests and element -/
theorem turn_ok {elt : Ex} {tg : Tg} {cs : OEx} {own : List Nat} {BE : Expr} {Cs : List Expr} {ι : Type} {Xs : ι → Cx} (c : ∀ i, Cok w kc k (Xs i) noW) (he : Snd w elt) (hc : SndC w cs) (kt : ckT kc tg T = true) (ki : inT own tg = true) (kcs : ckC cs kc Cs = true) (ke : (ck elt).e kc BE = true)
    {D : Addr} {H0 G0 : Hp} {F0 : Fp} {σc : L2.St} {acc : List PyData} {accV : List V} (a : AccI w pv D H0 G0 F0 σa σc acc H G F accV) (t : ∀ p ∈ w.tabs, p.2 ≠ D) (n : H0 D = none)
    {x : PyData} {v : V} {Gi : Hp} (li : Le Gi G) (y : Yl w.K Gi H v H1 x) {σw : L2.St} (hw : L2.wipe σc own = σw) {p : Option PyData × En} (e : turnL w.P.C (callF w.P k) elt tg cs own x σa = .ok p) {Nx : Hp → Prop}
    (hl : p.1 ≠ none → accV.length < sizeLine)
    (nx : ∀ H' G' F' accV' acc', (p.1 = none → acc' = acc) → (∀ z, p.1 = some z → acc' = acc ++ [z]) → Le G G' → AccI w pv D H0 G0 F0 p.2 σw acc' H' G' F' accV' → Nx H') :
    ∀ i, WpG (Xs i) T v σc H1 fun σ2 H2 => L2.wipe σ2 own = σw ∧ ∀ i, WpTs (Xs i) Cs σ2 H2 fun b H3 =>
      if b = true then ∀ i, WpE (Xs i) BE σ2 H3 fun y H4 => ∃ acc, H4 D = some (.lst acc) ∧ acc.length < sizeLine ∧ Nx (upd H4 D (.lst (acc ++ [y]))) else Nx H3 := by
  obtain ⟨σ1, e1, e⟩ := bind_ok (show (ofO (bindT tg x σa)).bind _ = _ from e)
  obtain ⟨q, e2, e⟩ := bind_ok e
  obtain ⟨Gy, st1, s1, r1⟩ := a.st.yield li y
  have a1 := a.go t s1 st1
  refine fun i => tgt (c i) kt (ofO_ok e1) st1 r1 fun σ2 F2 st2 s2 w2 => ⟨(w2 own ki).trans hw, fun i => ?_⟩
  have a2 := a1.go t s2 st2
  refine hc (c i) kcs pv σ1 σ2 H1 Gy F2 _ st2 ?_
  rw [e2]
  intro H3 G3 F3 s3 st3
  have a3 := a2.go t s3 st3
  cases hq : q.1 with
  | false =>
    rw [hq] at e
    cases e
    rw [if_neg Bool.false_ne_true]
    have a4 := a3.wipe own
    rw [w2 own ki, hw] at a4
    exact nx _ _ _ _ _ (fun _ => rfl) (fun _ z => nomatch z) (s1.gle.trans (s2.gle.trans s3.gle)) a4
  | true =>
    rw [hq] at e
    obtain ⟨q2, e3, e⟩ := bind_ok e
    cases e
    rw [if_pos rfl]
    refine fun i => he.v (c i) ke pv q.2 σ2 H3 G3 F3 _ st3 ?_
    rw [e3]
    intro H4 G4 F4 s4 st4 u ru
    have a4 := a3.go t s4 st4
    have a5 := (a4.push t n ru).wipe own
    rw [w2 own ki, hw] at a5
    exact ⟨accV, a4.hD, hl (fun z => nomatch z), nx _ _ _ _ _ (fun z => nomatch z) (fun z e => by cases e; rfl) (s1.gle.trans (s2.gle.trans (s3.gle.trans s4.gle))) a5⟩
theorem backE_length (σ1 σ' : En) : ∀ is : List Nat, (backE σ1 σ' is).length = σ'.length
  | [] => rfl
  | i :: is => by unfold backE; rw [List.length_set, backE_length σ1 σ' is]
theorem backE_get {σ1 σ' : En} {j : Nat} : ∀ {is : List Nat} {s : Slot}, (backE σ1 σ' is)[j]? = some s → (j ∈ is ∧ s = keepS σ1[j]?) ∨ (j ∉ is ∧ σ'[j]? = some s)
  | [], s, h => .inr ⟨by simp, h⟩
  | i :: is, s, h => by
    unfold backE at h
    by_cases hj : i = j
    · subst hj
      rw [List.getElem?_set] at h
      simp only [if_true] at h
      split at h
      · cases h; exact .inl ⟨by simp, rfl⟩
      · cases h
    · rw [List.getElem?_set_ne hj] at h
      rcases backE_get h with ⟨m, e⟩ | ⟨m, e⟩
      · exact .inl ⟨List.mem_cons_of_mem _ m, e⟩
      · exact .inr ⟨by simp only [List.mem_cons, not_or]; exact ⟨fun z => hj z.symm, m⟩, e⟩
/-- behind a comprehension -/
theorem StOk.back {σ1 σb : En} (st1 : StOk w pv σ1 σ H1 G1 F1) (st : StOk w pv σb (L2.wipe σ own) H G F) (l : Le G1 G) : StOk w pv (backE σ1 σb own) σ H G (wipeF F own) := by
  refine ⟨by rw [backE_length, st.len, L2.wipe_length], st.sub, fun j s e => ?_, fun j i n a m => ?_, fun j a m => ?_, fun j a m => ?_, st.tab⟩
  · rcases backE_get e with ⟨m, z⟩ | ⟨m, z⟩
    · unfold wipeF
      rw [if_pos m]
      cases q : σ1[j]? with
      | none => rw [q] at z; rw [z]; trivial
      | some u =>
        rw [q] at z
        cases u with
        | u => rw [z]; trivial
        | m _ _ => rw [z]; trivial
        | d x =>
          rw [z]
          obtain ⟨v, e1, r⟩ := st1.slot j _ q
          exact ⟨v, e1, r.mono l⟩
    · unfold wipeF
      rw [if_neg m]
      have q := st.slot j s z
      rw [wipe_get m] at q
      exact q
  · obtain ⟨j', q⟩ := wipeF_less (is := own) j a m
    unfold wipeF at m ⊢
    split at m
    · cases m
    · split
      · simp
      · exact st.disj j i n a m
  · obtain ⟨j', q⟩ := wipeF_less (is := own) j a m; exact st.free j' a q
  · obtain ⟨j', q⟩ := wipeF_less (is := own) j a m; exact st.there j' a q
theorem ownN {N : List Str} : ∀ {own : List Nat}, (own.all fun i => decide (i < N.length)) = true → (ownNames N own).map (·.2) = own
  | [], _ => rfl
  | i :: is, h => by
    rw [List.all_cons, Bool.and_eq_true] at h
    have hi := of_decide_eq_true h.1
    unfold ownNames
    rw [List.filterMap_cons, List.getElem?_eq_getElem hi]
    show i :: _ = _
    congr 1
    exact ownN h.2
/-- the block's own readings, in every state that it may start in -/
abbrev BI := Shared × Hp × Addr × List (Str × Addr) × List Addr
abbrev blkX (X : Cx) (scope : Scope) (i : BI) : Cx := X.blk i.1 i.2.1 scope (compEnvC scope i.2.2.2.1 i.2.2.1 X.env) i.2.2.2.2
def gB (X : Cx) (scope : Scope) (T : Expr) : TG := fun v σ H Q => ∀ i : BI, WpG (blkX X scope i) T v σ H Q
def ttB (X : Cx) (scope : Scope) (Cs : List Expr) : TT := fun σ H Q => ∀ i : BI, WpTs (blkX X scope i) Cs σ H Q
def teB (X : Cx) (scope : Scope) (E : Expr) : TE := fun σ H Q => ∀ i : BI, WpE (blkX X scope i) E σ H Q
def tiB (X : Cx) (scope : Scope) (T E : Expr) : TI := fun σ H R => ∀ i : BI, WpI (blkX X scope i) T E σ H R
theorem gB_ok {scope : Scope} (s : Shared) (H : Hp) (C : Addr) (cl : List (Str × Addr)) (fp : List Addr) : PG (X.blk s H scope (compEnvC scope cl C X.env) fp) T (gB X scope T) := ⟨fun pins s' σ H' v u Q I r h => h (s, H, C, cl, fp) pins s' u I r⟩
theorem ttB_ok {scope : Scope} {Cs : List Expr} (s : Shared) (H : Hp) (C : Addr) (cl : List (Str × Addr)) (fp : List Addr) : PTs (X.blk s H scope (compEnvC scope cl C X.env) fp) Cs (ttB X scope Cs) := ⟨fun pins s' σ H' Q I h => h (s, H, C, cl, fp) pins s' I⟩
theorem teB_ok {scope : Scope} (s : Shared) (H : Hp) (C : Addr) (cl : List (Str × Addr)) (fp : List Addr) : PE (X.blk s H scope (compEnvC scope cl C X.env) fp) E (teB X scope E) := ⟨fun pins s' σ H' Q I h => h (s, H, C, cl, fp) pins s' I⟩
theorem tiB_ok {scope : Scope} (s : Shared) (H : Hp) (C : Addr) (cl : List (Str × Addr)) (fp : List Addr) : PI (X.blk s H scope (compEnvC scope cl C X.env) fp) T E (tiB X scope T E) := ⟨fun pins s' σ H' R I h => h (s, H, C, cl, fp) pins s' I⟩
theorem drop_cons {α : Type} {xs : List α} {i : Nat} (h : i < xs.length) : ∃ x, xs[i]? = some x ∧ xs.drop i = x :: xs.drop (i + 1) := ⟨xs[i], List.getElem?_eq_getElem h, List.drop_eq_getElem_cons h⟩
theorem Post.still {α β : Type} {r : Res α} {f : α → Res β} {k : Ko β} {x : Str → Hp → Prop} (h : Post w H G F (r.still.bind f) k x) : ∃ a, r = .ok a ∧ Post w H G F (f a) k x := by
  cases r with
  | ok a => exact ⟨a, rfl, h⟩
  | exc c => exact h.elim
  | bad => exact h.elim
theorem wipe_sub {σ : L2.St} {own : List Nat} : ∀ {is : List Nat}, (∀ i ∈ is, i ∈ own) → L2.wipe (L2.wipe σ is) own = L2.wipe σ own
  | [], _ => rfl
  | i :: is, h => by
    rw [L2.wipe.eq_def σ (i :: is)]
    show L2.wipe ((L2.wipe σ is).set i none) own = _
    rw [wipe_set (h i (List.mem_cons_self ..))]
    exact wipe_sub fun j m => h j (List.mem_cons_of_mem _ m)
theorem wipe_wipe {σ : L2.St} {own : List Nat} : L2.wipe (L2.wipe σ own) own = L2.wipe σ own := wipe_sub fun _ m => m
theorem AccI.init (st : StOk w pv σa σ H G F) {D : Addr} (hD : H D = none) (own : List Nat) : AccI w pv D H G F (wipeE σa own) (L2.wipe σ own) [] (upd H D (.lst [])) G (wipeF F own) [] := by
  obtain ⟨nF, gD, nT⟩ := st.newNe hD
  have nF' : ∀ i, D ∉ wipeF F own i := fun i m => by obtain ⟨j, q⟩ := wipeF_less i D m; exact nF j q
  exact ⟨(Step.same wipeF_less).atD hD nT, (st.wipeB own).atD gD nF' nT, upd_same, .nil, gD, nF'⟩
def consF (f : List Addr) (F : Fp) : Fp := fun i => match i with
  | 0 => f
  | i + 1 => F i
/-- a new list at D, all its own yet: from (H0, G0, F0) -/
structure EndI (w : Wd) (pv : V) (H0 G0 : Hp) (F0 : Fp) (σb : En) (σ : L2.St) (D : Addr) (acc : List PyData) (accV : List V) (H G : Hp) (F : Fp) : Prop where
  st : StOk w pv σb σ H G F
  hD : H D = some (.lst accV)
  rp : RpAll w.K G accV acc
  gD : G D = none
  fD : ∀ i, D ∉ F i
  tD : ∀ p ∈ w.tabs, p.2 ≠ D
  fz : Step w H0 G0 F0 H (upd G D (.lst accV)) F
  ow : Step w H0 G0 F0 H G (consF [D] F)
theorem EndI.frozen {H0 G0 : Hp} {F0 : Fp} {D : Addr} {acc : List PyData} {accV : List V} (e : EndI w pv H0 G0 F0 σa σ D acc accV H G F) : StOk w pv σa σ H (upd G D (.lst accV)) F ∧ Rp w.K (upd G D (.lst accV)) (.ref D) (.list acc) :=
  ⟨e.st.frz e.hD e.gD e.fD e.tD, .lst (.inl (.inl upd_same)) (e.rp.mono (Le.upd e.gD))⟩
theorem AccI.end {σ1 : En} {D : Addr} {H0 G0 : Hp} {F0 : Fp} {acc : List PyData} {accV : List V} {own : List Nat} (a : AccI w pv D H0 G0 F0 σa (L2.wipe σ own) acc H G F accV) (st1 : StOk w pv σ1 σ H0 G0 F0) (hD : H0 D = none) :
    EndI w pv H0 G0 F0 (backE σ1 σa own) σ D acc accV H G (wipeF F own) := by
  obtain ⟨nF, gD, nT⟩ := st1.newNe hD
  have s2 := a.step.less (wipeF_less (is := own))
  refine ⟨st1.back a.st a.step.gle, a.hD, a.rp, a.gD, fun i m => by obtain ⟨j, q⟩ := wipeF_less i D m; exact a.fD j q, nT, s2.frz hD a.gD, ⟨s2.gle, s2.keep, fun i x m => ?_, s2.tabk⟩⟩
  cases i with
  | zero =>
    have e : x = D := by simpa [consF] using m
    subst e
    exact .inr hD
  | succ i => exact s2.fresh i x m
theorem EndI.since {H0 G0 : Hp} {F0 : Fp} {D : Addr} {acc : List PyData} {accV : List V} (e : EndI w pv H1 G1 F1 σa σ D acc accV H G F) (s : Step w H0 G0 F0 H1 G1 F1) : EndI w pv H0 G0 F0 σa σ D acc accV H G F :=
  ⟨e.st, e.hD, e.rp, e.gD, e.fD, e.tD, s.trans e.fz, s.trans e.ow⟩
def tru {α : Type} : Ko α := fun _ _ _ _ => True
/-- a comprehension's reading -/
theorem lc_read {elt : Ex} {tg : Tg} {it : Ir} {cs : OEx} {own : List Nat} {scope : Scope} {BE IE : Expr} {Cs : List Expr} (c : Cok w kc k X W) (he : Snd w elt) (hc : SndC w cs) (hi : SndI w it)
    (ki : inT own tg = true) (kt : ckT (kc.blk scope) tg T = true) (kit : ckI it kc T IE = true) (kcs : ckC cs (kc.blk scope) Cs = true) (ke : (ck elt).e (kc.blk scope) BE = true)
    {Q : VK} (st : StOk w pv σa σ H G F) (p : Post w H G F ((sm w.P.C (callF w.P k) (.lc elt tg it cs own)).v σa) tru (KX w W σ))
    (fin : ∀ σb D acc accV H' G' F', (sm w.P.C (callF w.P k) (.lc elt tg it cs own)).v σa = .ok (.list acc, σb) → EndI w pv H G F σb σ D acc accV H' G' F' → Q (.ref D) H') :
    tLc (WpI X T IE) (gB X scope T) (ttB X scope Cs) (teB X scope BE) own σ H Q := by
  have hL : LINE = sizeLine := line_eq
  have cb : ∀ i, Cok w (kc.blk scope) k (blkX X scope i) noW := fun i => c.blk ..
  refine (hi c kit).1 pv σa σ H G F _ st (Post.then p fun q H1 G1 F1 eq1 s01 z st1 J wk D hD => ?_)
  obtain ⟨nF, gD, nT⟩ := st1.newNe hD
  have hD0 : (upd H1 D (.lst [])) D = some (.lst []) := upd_same
  obtain ⟨res, hres, z⟩ := Post.still (show Post w H1 G1 F1 ((listL (turnL w.P.C (callF w.P k) elt tg cs own) q.1 (wipeE q.2 own) []).still.bind fun r => .ok (PyData.list r.1, backE q.2 r.2 own)) tru (KX w W σ) from z)
  refine ⟨fun i m H' => m = q.1.length - i ∧ i ≤ q.1.length ∧ ∃ σa' acc G' F' accV, AccI w pv D H1 G1 F1 σa' (L2.wipe σ own) acc H' G' F' accV ∧ listL (turnL w.P.C (callF w.P k) elt tg cs own) (q.1.drop i) σa' acc = .ok res,
    ⟨_, rfl, Nat.zero_le _, _, _, _, _, _, AccI.init st1 hD own, hres⟩, ?_⟩
  rintro i m H' ⟨rfl, hile, σa', acc, G', F', accV, a, er⟩
  obtain ⟨ws, wg⟩ := wk i H' (a.step.gle.trans a.st.sub)
  by_cases hlt : i < q.1.length
  · obtain ⟨x, ex, ed⟩ := drop_cons hlt
    rw [ed] at er
    obtain ⟨tp, et, er⟩ := listL_step er
    obtain ⟨g1, g2⟩ := wg x ex
    refine .inr ⟨g1, fun H2 => ∃ σa' acc G' F' accV, AccI w pv D H1 G1 F1 σa' (L2.wipe σ own) acc H2 G' F' accV ∧ listL (turnL w.P.C (callF w.P k) elt tg cs own) (q.1.drop (i + 1)) σa' acc = .ok res, fun H2 n2 => ⟨_, by omega, rfl, hlt, n2⟩, fun v H2 hy => ?_⟩
    refine turn_ok cb he hc kt ki kcs ke a nT hD (a.step.gle) (g2 v H2 hy) wipe_wipe et (fun n => ?_) fun H3 G3 F3 accV' acc' n1 n2 _ a3 => ?_
    · rcases er with ⟨y, e1, e2, _⟩ | ⟨e1, _⟩
      · rw [a.rp.length, ← hL]; exact e2
      · exact absurd e1 n
    · refine ⟨_, _, _, _, _, a3, ?_⟩
      rcases er with ⟨y, e1, e2, e3⟩ | ⟨e1, e3⟩
      · rw [n2 y e1]; exact e3
      · rw [n1 e1]; exact e3
  · have e : i = q.1.length := by omega
    rw [e, List.drop_length] at er
    cases er
    refine .inl ⟨ws (by omega), fin _ D acc accV _ _ _ ?_ ((a.end st1 hD).since s01)⟩
    show (smI w.P.C (callF w.P k) it σa).bind (fun p => (listL (turnL w.P.C (callF w.P k) elt tg cs own) p.1 (wipeE p.2 own) []).still.bind fun q => .ok (PyData.list q.1, backE p.2 q.2 own)) = _
    rw [eq1, ok_bind, hres]
    rfl
/-- an expression that makes a new list; it does not freeze it -/
def SNew (w : Wd) (W : WX) (te : TE) (f : En → Res (PyData × En)) : Prop := ∀ (pv : V) (σa : En) (σ : L2.St) (H G : Hp) (F : Fp) (Q : VK), StOk w pv σa σ H G F → Post w H G F (f σa) tru (KX w W σ) →
  (∀ σb D acc accV H' G' F', f σa = .ok (.list acc, σb) → EndI w pv H G F σb σ D acc accV H' G' F' → Q (.ref D) H') → te σ H Q
/-- with it any wish of a frozen list -/
theorem SNew.read {te : TE} {f : En → Res (PyData × En)} (h : SNew w W te f) {Q : VK} (st : StOk w pv σa σ H G F) (pp : Post w H G F (f σa) (KE w pv σ Q) (KX w W σ)) : te σ H Q := by
  refine h pv σa σ H G F Q st (pp.imp (fun _ _ _ _ _ _ _ => trivial) fun _ _ z => z) fun σb D acc accV H' G' F' e en => ?_
  rw [e] at pp
  obtain ⟨s1, r1⟩ := en.frozen
  exact pp _ _ _ en.fz s1 _ r1
theorem SE.ofNew {te : TE} {E : Expr} {f : En → Res (PyData × En)} (p : PE X E te) (h : SNew w W te f) : SE w X W E f := fun pv σa σ H G F Q st pp => ofPE p (h.read st pp)
theorem good_folded' {env : PySem.Env} (g : goodE E = true) (x : Value) : foldedSetIterable E env x = pure x := good_folded g x
theorem snd_lc {elt : Ex} {tg : Tg} {it : Ir} {cs : OEx} {own : List Nat} (he : Snd w elt) (hc : SndC w cs) (hi : SndI w it) : Snd w (.lc elt tg it cs own) := by
  refine snd_plain rfl (fun _ => rfl) (fun kc E h => by cases E <;> first | rfl | cases h) fun {kc k X W E} c g h => ?_
  split at h
  · rename_i BE T IE Cs scope pos
    simp only [Bool.and_eq_true] at h
    obtain ⟨⟨⟨h1, h2⟩, h3, h4⟩, h5, h6, h7⟩ := h
    have e : (ownNames kc.N own).map (·.2) = own := ownN h2
    have P := pe_lc (X := X) (pos := pos) (wi := WpI X T IE) (g := gB X scope T) (tt := ttB X scope Cs) (te := teB X scope BE) c.calm (by rw [c.hN]; exact c.nd) piW (blkOk_by (by rw [c.hN, c.hsc]; exact h1)) gB_ok ttB_ok teB_ok (good_folded' (hi c h5).2)
    rw [e] at P
    exact .ofNew P fun pv σa σ H G F Q st pp fin => lc_read c he hc hi h3 h4 h5 h6 h7 st pp fin
  · cases h
/-! ### two clauses -/
def turn2 (C : List (Str × PyData)) (fn : Fns) (elt : Ex) (tg tg1 : Tg) (it1 : Ir) (cs : OEx) (own own1 : List Nat) : PyData → En → List PyData → Res (List PyData × En) := fun x σ acc => (ofO (bindT tg x σ)).bind fun σ1 => (smI C fn it1 σ1).bind fun r =>
  (listL (turnL C fn elt tg1 cs own1) r.1 (wipeE r.2 own1) acc).bind fun q => .ok (q.1, wipeE q.2 own)
theorem listL2_step {f : PyData → En → List PyData → Res (List PyData × En)} {x : PyData} {xs : List PyData} {σa : En} {acc : List PyData} {res : List PyData × En} (h : listL2 f (x :: xs) σa acc = .ok res) :
    ∃ p, f x σa acc = .ok p ∧ listL2 f xs p.2 p.1 = .ok res := bind_ok (show (f x σa acc).bind _ = _ from h)
theorem lc2_read {elt : Ex} {tg tg1 : Tg} {it it1 : Ir} {cs : OEx} {own own1 : List Nat} {scope : Scope} {T1 BE IE IE1 : Expr} {Cs : List Expr} (c : Cok w kc k X W) (he : Snd w elt) (hc : SndC w cs) (hi : SndI w it) (hi1 : SndI w it1)
    (ki : inT own tg = true) (kt : ckT (kc.blk scope) tg T = true) (ki1 : inT own1 tg1 = true) (kt1 : ckT (kc.blk scope) tg1 T1 = true) (kit : ckI it kc T IE = true) (ksub : ∀ i ∈ own1, i ∈ own)
    (kit1 : ckI it1 (kc.blk scope) T1 IE1 = true) (kcs : ckC cs (kc.blk scope) Cs = true) (ke : (ck elt).e (kc.blk scope) BE = true)
    {Q : VK} (st : StOk w pv σa σ H G F) (p : Post w H G F ((sm w.P.C (callF w.P k) (.lc2 elt tg it tg1 it1 cs own own1)).v σa) tru (KX w W σ))
    (fin : ∀ σb D acc accV H' G' F', (sm w.P.C (callF w.P k) (.lc2 elt tg it tg1 it1 cs own own1)).v σa = .ok (.list acc, σb) → EndI w pv H G F σb σ D acc accV H' G' F' → Q (.ref D) H') :
    tLc2 (WpI X T IE) (gB X scope T) tYes (tiB X scope T1 IE1) (gB X scope T1) (ttB X scope Cs) (teB X scope BE) own own1 σ H Q := by
  have hL : LINE = sizeLine := line_eq
  have cb : ∀ i, Cok w (kc.blk scope) k (blkX X scope i) noW := fun i => c.blk ..
  refine (hi c kit).1 pv σa σ H G F _ st (Post.then p fun q H1 G1 F1 eq1 s01 z st1 J wk D hD => ?_)
  obtain ⟨nF, gD, nT⟩ := st1.newNe hD
  obtain ⟨res, hres, z⟩ := Post.still (show Post w H1 G1 F1 ((listL2 (turn2 w.P.C (callF w.P k) elt tg tg1 it1 cs own own1) q.1 (wipeE q.2 own) []).still.bind fun r => .ok (PyData.list r.1, backE q.2 r.2 own)) tru (KX w W σ) from z)
  refine ⟨fun i m H' => m = q.1.length - i ∧ i ≤ q.1.length ∧ ∃ σa' acc G' F' accV, AccI w pv D H1 G1 F1 σa' (L2.wipe σ own) acc H' G' F' accV ∧ listL2 (turn2 w.P.C (callF w.P k) elt tg tg1 it1 cs own own1) (q.1.drop i) σa' acc = .ok res,
    ⟨_, rfl, Nat.zero_le _, _, _, _, _, _, AccI.init st1 hD own, hres⟩, ?_⟩
  rintro i m H' ⟨rfl, hile, σa', acc, G', F', accV, a, er⟩
  obtain ⟨ws, wg⟩ := wk i H' (a.step.gle.trans a.st.sub)
  by_cases hlt : i < q.1.length
  · obtain ⟨x, ex, ed⟩ := drop_cons hlt
    rw [ed] at er
    obtain ⟨tp, et, er⟩ := listL2_step er
    obtain ⟨g1, g2⟩ := wg x ex
    refine .inr ⟨g1, fun H2 => ∃ σa' acc G' F' accV, AccI w pv D H1 G1 F1 σa' (L2.wipe σ own) acc H2 G' F' accV ∧ listL2 (turn2 w.P.C (callF w.P k) elt tg tg1 it1 cs own own1) (q.1.drop (i + 1)) σa' acc = .ok res, fun H2 n2 => ⟨_, by omega, rfl, hlt, n2⟩, fun v H2 hy => ?_⟩
    -- the outer turn
    obtain ⟨σ1, e1, et⟩ := bind_ok (show (ofO (bindT tg x σa')).bind _ = _ from et)
    obtain ⟨r, e2, et⟩ := bind_ok et
    obtain ⟨lr, e3, et⟩ := bind_ok et
    cases et
    obtain ⟨Gy, sty, sy, ry⟩ := a.st.yield a.step.gle (g2 v H2 hy)
    have ay := a.go nT sy sty
    refine fun bi => tgt (cb bi) kt (ofO_ok e1) sty ry fun σ2 F2 st2 s2 w2 => ⟨(w2 own ki).trans wipe_wipe, ?_⟩
    have a2 := ay.go nT s2 st2
    simp only [tYes, if_true]
    intro bj
    refine (hi1 (cb bj) kit1).1 pv σ1 σ2 H2 Gy F2 _ st2 ?_
    rw [e2]
    intro H3 G3 F3 s3 st3 J1 wk1
    have a3 := a2.go nT s3 st3
    have wσ : L2.wipe σ2 own = L2.wipe σ own := (w2 own ki).trans wipe_wipe
    refine ⟨fun j m H' => m = r.1.length - j ∧ j ≤ r.1.length ∧ ∃ σa' acc G' F' accV, AccI w pv D H1 G1 F1 σa' (L2.wipe σ2 own1) acc H' G' F' accV ∧ Le G3 G' ∧ listL (turnL w.P.C (callF w.P k) elt tg1 cs own1) (r.1.drop j) σa' acc = .ok lr,
      ⟨_, rfl, Nat.zero_le _, _, _, _, _, _, a3.wipe own1, .refl _, e3⟩, ?_⟩
    rintro j m H' ⟨rfl, hjle, σb, accb, Gb, Fb, accVb, b, lb, eb⟩
    obtain ⟨ws1, wg1⟩ := wk1 j H' (lb.trans b.st.sub)
    by_cases hlt1 : j < r.1.length
    · obtain ⟨x1, ex1, ed1⟩ := drop_cons hlt1
      rw [ed1] at eb
      obtain ⟨tp1, et1, eb⟩ := listL_step eb
      obtain ⟨g3, g4⟩ := wg1 x1 ex1
      refine .inr ⟨g3, fun H2 => ∃ σa' acc G' F' accV, AccI w pv D H1 G1 F1 σa' (L2.wipe σ2 own1) acc H2 G' F' accV ∧ Le G3 G' ∧ listL (turnL w.P.C (callF w.P k) elt tg1 cs own1) (r.1.drop (j + 1)) σa' acc = .ok lr, fun H2 n2 => ⟨_, by omega, rfl, hlt1, n2⟩, fun v H2 hy => ?_⟩
      refine turn_ok cb he hc kt1 ki1 kcs ke b nT hD lb (g4 v H2 hy) wipe_wipe et1 (fun n => ?_) fun H3 G5 F5 accV' acc' n1 n2 l5 a5 => ?_
      · rcases eb with ⟨y, e1, e2, _⟩ | ⟨e1, _⟩
        · rw [b.rp.length, ← hL]; exact e2
        · exact absurd e1 n
      · refine ⟨_, _, _, _, _, a5, lb.trans l5, ?_⟩
        rcases eb with ⟨y, e1, e2, e3⟩ | ⟨e1, e3⟩
        · rw [n2 y e1]; exact e3
        · rw [n1 e1]; exact e3
    · have e : j = r.1.length := by omega
      rw [e, List.drop_length] at eb
      cases eb
      have b2 := b.wipe own
      rw [wipe_sub ksub, wσ] at b2
      exact .inl ⟨ws1 (by omega), _, _, _, _, _, b2, er⟩
  · have e : i = q.1.length := by omega
    rw [e, List.drop_length] at er
    cases er
    refine .inl ⟨ws (by omega), fin _ D acc accV _ _ _ ?_ ((a.end st1 hD).since s01)⟩
    show (smI w.P.C (callF w.P k) it σa).bind (fun p => (listL2 (turn2 w.P.C (callF w.P k) elt tg tg1 it1 cs own own1) p.1 (wipeE p.2 own) []).still.bind fun q => .ok (PyData.list q.1, backE p.2 q.2 own)) = _
    rw [eq1, ok_bind, hres]
    rfl
theorem ckI_good : ∀ {it : Ir} {T E : Expr}, ckI it kc T E = true → goodE E = true
  | .of e, _, _, h => ck_good (show (ck e).e kc _ = true from h)
  | .range1 _, _, E, h => by cases E <;> first | rfl | cases h
  | .range2 _ _, _, E, h => by cases E <;> first | rfl | cases h
  | .zip _ _, _, E, h => by cases E <;> first | rfl | cases h
  | .enum _, _, E, h => by cases E <;> first | rfl | cases h
  | .enumz _ _, _, E, h => by cases E <;> first | rfl | cases h
theorem snd_lc2 {elt : Ex} {tg tg1 : Tg} {it it1 : Ir} {cs : OEx} {own own1 : List Nat} (he : Snd w elt) (hc : SndC w cs) (hi : SndI w it) (hi1 : SndI w it1) : Snd w (.lc2 elt tg it tg1 it1 cs own own1) := by
  refine snd_plain rfl (fun _ => rfl) (fun kc E h => by cases E <;> first | rfl | cases h) fun {kc k X W E} c g h => ?_
  split at h
  · rename_i BE T IE T1 IE1 Cs scope pos
    simp only [Bool.and_eq_true] at h
    obtain ⟨⟨⟨h1, h2⟩, ⟨h3, h4⟩, h5, h6⟩, ⟨h7, h8⟩, h9, h10, h11⟩ := h
    have e : (ownNames kc.N own).map (·.2) = own := ownN h2
    have sub : ∀ i ∈ own1, i ∈ own := fun i m => of_decide_eq_true (List.all_eq_true.mp h8 i m)
    have gI1 : goodE IE1 = true := ckI_good h9
    have P := pe_lc2 (X := X) (pos := pos) (vs1 := own1) (wi := WpI X T IE) (g := gB X scope T) (tt := tYes) (wi1 := tiB X scope T1 IE1) (g1 := gB X scope T1) (tt1 := ttB X scope Cs) (te := teB X scope BE) c.calm (by rw [c.hN]; exact c.nd) piW (blkOk_by (by rw [c.hN, c.hsc]; exact h1)) (by rw [e]; exact sub) gB_ok (fun _ _ _ _ _ => pts_nil) tiB_ok gB_ok ttB_ok teB_ok (good_folded' (hi c h7).2) (fun env x => good_folded gI1 x)
    rw [e] at P
    exact .ofNew P fun pv σa σ H G F Q st pp fin => lc2_read c he hc hi hi1 h3 h4 h5 h6 h7 sub h9 h10 h11 st pp fin
  · cases h
/-! ### any, all of a generator expression -/
def gQ (X : Cx) (kr : Nat) (scope : Scope) (T : Expr) : TG := fun v σ H Q => ∀ i : { i : GIx // Room kr (genX X scope i).A }, WpG (genX X scope i.1) T v σ H Q
def ttQ (X : Cx) (kr : Nat) (scope : Scope) (Cs : List Expr) : TT := fun σ H Q => ∀ i : { i : GIx // Room kr (genX X scope i).A }, WpTs (genX X scope i.1) Cs σ H Q
def teQ (X : Cx) (kr : Nat) (scope : Scope) (E : Expr) : TE := fun σ H Q => ∀ i : { i : GIx // Room kr (genX X scope i).A }, WpE (genX X scope i.1) E σ H Q
theorem Cok.gen (c : Cok w kc k X W) {scope : Scope} {i : GIx} (r : Room (3 * k + (kc.sl - 1)) (genX X scope i).A) : Cok w (kc.gblk scope) k (genX X scope i) noW where
  hN := c.hN
  nd := c.nd
  hsc := rfl
  hfb := rfl
  hP := c.hP
  calm := c.calm
  room := r
  hK := c.hK
  takes := takes0
  fns := c.fns
  mgs := c.mgs
  cod := fun j e => by cases e
theorem StOk.tabbed (st : StOk w pv σa σ H G F) {p : Addr × Addr} (hp : p ∈ w.tabs) (t : GxR.Tabbed p.2 H H1) : StOk w pv σa σ H1 G F ∧ Step w H G F H1 G F := by
  obtain ⟨⟨ps, e, _⟩, g⟩ := st.tab p hp
  have ne : ∀ i, ∀ a ∈ F i, a ≠ p.2 := fun i a m z => by
    obtain ⟨o, e1, mu⟩ := st.there i a m
    rw [z, e] at e1; cases e1; exact mu
  have gne : ∀ a o, G a = some o → a ≠ p.2 := fun a o e z => by rw [z, g] at e; cases e
  have tb : ∀ q ∈ w.tabs, GxR.TabG H1 q.2 := fun q hq => by
    by_cases z : q.2 = p.2
    · rw [z]; exact t.1
    · obtain ⟨⟨qs, e1, e2⟩, _⟩ := st.tab q hq
      exact ⟨qs, by rw [t.2 _ z]; exact e1, e2⟩
  refine ⟨⟨st.len, fun a o e => by rw [t.2 a (gne a o e)]; exact st.sub a o e, fun i x e => (st.slot i x e).mono (.refl G) fun a m => t.2 a (ne i a m), st.disj, st.free, fun i a m => by rw [t.2 a (ne i a m)]; exact st.there i a m, fun q hq => ⟨tb q hq, (st.tab q hq).2⟩⟩,
    ⟨.refl G, fun a o e _ h => ⟨by rw [t.2 a (fun z => h p hp z.symm)]; exact e, fun z => z⟩, fun i a m => .inl ⟨i, m⟩, fun q hq _ z => ?_⟩⟩
  obtain ⟨qs, e1, _⟩ := tb q hq
  rw [e1] at z; cases z
theorem gturn_ok {ι : Type} {Xs : ι → Cx} {elt : Ex} {tg : Tg} {cs : OEx} {own : List Nat} {BE : Expr} {Cs : List Expr} (c : ∀ i, Cok w kc k (Xs i) noW) (he : Snd w elt) (hc : SndC w cs) (kt : ckT kc tg T = true) (ki : inT own tg = true) (kcs : ckC cs kc Cs = true) (ke : (ck elt).e kc BE = true)
    {σc σw : L2.St} (st : StOk w pv σa σc H G F) {x : PyData} {v : V} {Gi : Hp} (li : Le Gi G) (y : Yl w.K Gi H v H1 x) (hw : L2.wipe σc own = σw) {p : Option PyData × En} (e : turnL w.P.C (callF w.P k) elt tg cs own x σa = .ok p) {R0 : Hp → Prop} {R1 : V → Hp → Prop}
    (n0 : p.1 = none → ∀ H' G' F', Step w H G F H' G' F' → StOk w pv p.2 σw H' G' F' → R0 H') (n1 : ∀ z, p.1 = some z → ∀ H' G' F' u, Step w H G F H' G' F' → StOk w pv p.2 σw H' G' F' → Rp w.K G' u z → R1 u H') :
    ∀ i, WpG (Xs i) T v σc H1 fun σ2 H2 => L2.wipe σ2 own = σw ∧ ∀ i, WpTs (Xs i) Cs σ2 H2 fun b H3 => if b = true then ∀ i, WpE (Xs i) BE σ2 H3 R1 else R0 H3 := by
  obtain ⟨σ1, e1, e⟩ := bind_ok (show (ofO (bindT tg x σa)).bind _ = _ from e)
  obtain ⟨q, e2, e⟩ := bind_ok e
  obtain ⟨Gy, st1, s1, r1⟩ := st.yield li y
  refine fun i => tgt (c i) kt (ofO_ok e1) st1 r1 fun σ2 F2 st2 s2 w2 => ⟨(w2 own ki).trans hw, fun i => ?_⟩
  refine hc (c i) kcs pv σ1 σ2 H1 Gy F2 _ st2 ?_
  rw [e2]
  intro H3 G3 F3 s3 st3
  cases hq : q.1 with
  | false =>
    rw [hq] at e
    cases e
    rw [if_neg Bool.false_ne_true]
    have st4 := st3.wipeB own
    rw [w2 own ki, hw] at st4
    exact n0 rfl _ _ _ ((s1.trans (s2.trans s3)).less wipeF_less) st4
  | true =>
    rw [hq] at e
    obtain ⟨q2, e3, e⟩ := bind_ok e
    cases e
    rw [if_pos rfl]
    refine fun i => he.v (c i) ke pv q.2 σ2 H3 G3 F3 _ st3 ?_
    rw [e3]
    intro H4 G4 F4 s4 st4 u ru
    have st5 := st4.wipeB own
    rw [w2 own ki, hw] at st5
    exact n1 _ rfl _ _ _ u ((s1.trans (s2.trans (s3.trans s4))).less wipeF_less) st5 ru
theorem trs_of {K : PySem.W.Frag} {y : V} {t : Bool} {P : Program} {wo : World} (e : TruV K y H t) : TrA P wo K y H t := by
  intro X h1 h2 h3 pins σ s u A Q E I r hh q
  subst h1 h2 h3
  have hl := line63
  have hs : sizeLine = 16777216 := sizeLine_eq
  cases y with
  | non => cases r; cases (show t = false from e); exact truthy_none (q s.toks)
  | bl b => cases r; cases (show t = b from e); exact wpAny_truthy_bool (q s.toks)
  | int i =>
    obtain ⟨tk, rfl⟩ := r
    cases (show t = (i != 0) from e)
    exact PySem.P.truthy_int (q s.toks)
  | str z =>
    obtain ⟨tk, rfl⟩ := r
    obtain ⟨hz, e'⟩ : z.length ≤ sizeLine ∧ t = ((z.length : Int) != 0) := e
    subst e'
    exact PySem.P.truthy_str (by omega) (q _)
  | byt z =>
    obtain ⟨tk, rfl⟩ := r
    obtain ⟨hz, e'⟩ : z.size ≤ sizeLine ∧ t = ((z.size : Int) != 0) := e
    subst e'
    exact PySem.W.truthy_bytes (by omega) (q _)
  | ref p =>
    cases r
    rcases (show (∃ xs, SqL X.K H p xs ∧ t = !xs.isEmpty) ∨ (∃ xs, SqT X.K H p xs ∧ t = !xs.isEmpty) ∨ ∃ kvs, H p = some (.dK kvs) ∧ t = !kvs.isEmpty from e) with ⟨xs, hx, e'⟩ | ⟨xs, hx, e'⟩ | ⟨kvs, hx, e'⟩
    · subst e'
      obtain ⟨its, r, pl, hz⟩ := I.list hx
      have n := r.length
      exact wpAny_truthy_list pl.isList (by simp only [List.size_toArray]; omega) (by rw [isEmpty_of r]; exact q _)
    · subst e'
      obtain ⟨its, r, pl, hz⟩ := I.tuple hx
      have n := r.length
      exact truthy_tuple pl (by simp only [List.size_toArray]; omega) (by rw [isEmpty_of r]; exact q _)
    · subst e'
      obtain ⟨hz, hS, vs, r, m⟩ : kvs.length ≤ sizeLine ∧ (p == sysModules) = false ∧ ∃ vs, KV kvs vs ∧ s.heap.DictOf (mixKind X.prog X.w) p vs := I.hok p _ hx
      have n : kvs.length = vs.length := Paired.length r
      exact wpAny_truthy_dict hS m (by omega) (by rw [isEmpty_kv r]; exact q _)
  | _ => exact (show False from e).elim
theorem quaL_step {k : Bool} {f : PyData → En → Res (Option PyData × En)} {x : PyData} {xs : List PyData} {σa : En} {res : Bool × En} (h : quaL k f (x :: xs) σa = .ok res) :
    ∃ p, f x σa = .ok p ∧ ((∃ y t, p.1 = some y ∧ trD y = some t ∧ (t = k → quaL k f xs p.2 = .ok res) ∧ (t ≠ k → res = (t, p.2))) ∨ (p.1 = none ∧ quaL k f xs p.2 = .ok res)) := by
  obtain ⟨p, e, h⟩ := bind_ok (show (f x σa).bind _ = _ from h)
  refine ⟨p, e, ?_⟩
  cases hp : p.1 with
  | none => rw [hp] at h; exact .inr ⟨rfl, h⟩
  | some y =>
    rw [hp] at h
    obtain ⟨t, e2, h⟩ := bind_ok (show (ofO (trD y)).bind _ = _ from h)
    refine .inl ⟨y, t, rfl, ofO_ok e2, fun z => ?_, fun z => ?_⟩
    · rw [if_pos z] at h; exact h
    · rw [if_neg z] at h; cases h; rfl
theorem gq_read {q : Bool} {elt : Ex} {tg : Tg} {it : Ir} {cs : OEx} {own : List Nat} {scope : Scope} {BE IE : Expr} {Cs : List Expr} (c : Cok w kc k X W) (he : Snd w elt) (hc : SndC w cs) (hi : SndI w it) {p : Addr × Addr} (hp : p ∈ w.tabs)
    (ki : inT own tg = true) (kt : ckT (kc.gblk scope) tg T = true) (kit : ckI it kc T IE = true) (kcs : ckC cs (kc.gblk scope) Cs = true) (ke : (ck elt).e (kc.gblk scope) BE = true)
    {Q : VK} (st : StOk w pv σa σ H G F) (pp : Post w H G F ((sm w.P.C (callF w.P k) (.gq q elt tg it cs own)).v σa) (KE w pv σ Q) (KX w W σ)) :
    tGq X.prog X.w X.K q p.2 (WpI X T IE) (gQ X (3 * k + (kc.sl - 1)) scope T) (ttQ X (3 * k + (kc.sl - 1)) scope Cs) (teQ X (3 * k + (kc.sl - 1)) scope BE) own σ H Q := by
  have cb : ∀ i : { i : GIx // Room (3 * k + (kc.sl - 1)) (genX X scope i).A }, Cok w (kc.gblk scope) k (genX X scope i.1) noW := fun i => c.gen i.2
  refine (hi c kit).1 pv σa σ H G F _ st (Post.then pp fun r H1 G1 F1 eq1 s01 z st1 J wk => ⟨(st1.tab p hp).1, fun H2 tbd => ?_⟩)
  obtain ⟨st2, s12⟩ := st1.tabbed hp tbd
  obtain ⟨res, hres, z⟩ := Post.still (show Post w H1 G1 F1 ((quaL q (turnL w.P.C (callF w.P k) elt tg cs own) r.1 (wipeE r.2 own)).still.bind fun u => .ok (PyData.bool u.1, backE r.2 u.2 own)) (KE w pv σ Q) (KX w W σ) from z)
  have fin : ∀ H' G' F', Step w H1 G1 F1 H' G' F' → StOk w pv res.2 (L2.wipe σ own) H' G' F' → Q (.bl res.1) H' := fun H' G' F' s' st' =>
    z _ _ _ (s'.less (wipeF_less (is := own))) (st1.back st' s'.gle) _ (.bl _)
  refine ⟨fun i m H' => m = r.1.length - i ∧ i ≤ r.1.length ∧ ∃ σa' G' F', Step w H1 G1 F1 H' G' F' ∧ StOk w pv σa' (L2.wipe σ own) H' G' F' ∧ quaL q (turnL w.P.C (callF w.P k) elt tg cs own) (r.1.drop i) σa' = .ok res,
    ⟨_, rfl, Nat.zero_le _, _, _, _, s12.less (wipeF_less (is := own)), st2.wipeB own, hres⟩, ?_⟩
  rintro i m H' ⟨rfl, hile, σa', G', F', s', st', er⟩
  obtain ⟨ws, wg⟩ := wk i H' (s'.gle.trans st'.sub)
  by_cases hlt : i < r.1.length
  · obtain ⟨x, ex, ed⟩ := drop_cons hlt
    rw [ed] at er
    obtain ⟨tp, et, er⟩ := quaL_step er
    obtain ⟨g1, g2⟩ := wg x ex
    refine .inr ⟨g1, fun H2 => ∃ σa' G' F', Step w H1 G1 F1 H2 G' F' ∧ StOk w pv σa' (L2.wipe σ own) H2 G' F' ∧ quaL q (turnL w.P.C (callF w.P k) elt tg cs own) (r.1.drop (i + 1)) σa' = .ok res, fun H2 n2 => ⟨_, by omega, rfl, hlt, n2⟩, fun v H2 hy => ?_⟩
    refine gturn_ok cb he hc kt ki kcs ke st' s'.gle (g2 v H2 hy) wipe_wipe et (fun n H3 G3 F3 s3 st3 => ?_) fun y n H3 G3 F3 u s3 st3 ru => ?_
    · rcases er with ⟨y, t, e1, _⟩ | ⟨_, e2⟩
      · rw [n] at e1; cases e1
      · exact ⟨_, _, _, s'.trans s3, st3, e2⟩
    · rcases er with ⟨y', t, e1, e2, e3, e4⟩ | ⟨e1, _⟩
      · rw [n] at e1
        cases e1
        refine ⟨t, by rw [c.hK]; exact trs_of (tru_of (X := X) (w := w) (H' := H3) c.hK e2 st3 ru (fun kvs y => by rw [y] at e2; cases e2) |> fun h => by rw [c.hK] at h; exact h), fun e => ⟨_, _, _, s'.trans s3, st3, e3 e⟩, fun e => ?_⟩
        have e5 := e4 e
        have q := fin H3 G3 F3 (s'.trans s3) (by rw [e5]; exact st3)
        rw [e5] at q
        exact q
      · rw [n] at e1; cases e1
  · have e : i = r.1.length := by omega
    rw [e, List.drop_length] at er
    cases er
    exact .inl ⟨ws (by omega), fin _ _ _ s' st'⟩
theorem gfold (g : goodE I = true) (n : notList I = true) {env : PySem.Env} : ∀ v, genFold I env v = pure v := by
  intro v
  cases I <;> first | (exact Bool.noConfusion n) | (exact Bool.noConfusion g) | rfl
theorem snd_gq {q : Bool} {elt : Ex} {tg : Tg} {it : Ir} {cs : OEx} {own : List Nat} (he : Snd w elt) (hc : SndC w cs) (hi : SndI w it) : Snd w (.gq q elt tg it cs own) := by
  refine snd_plain rfl (fun _ => rfl) (fun kc E h => by cases E <;> first | rfl | cases h) fun {kc k X W E} c g h => ?_
  split at h
  · rename_i x px B T I Cs scope gpos pos
    simp only [Bool.and_eq_true, decide_eq_true_eq] at h
    obtain ⟨⟨⟨rfl, hx⟩, hsl, hco⟩, ⟨⟨h1, h2⟩, h3, h4⟩, ⟨h5, h6⟩, h7, h8, h9⟩ := h
    obtain ⟨gx, ok⟩ := gl_of c hx
    obtain ⟨j, ej⟩ := Option.isSome_iff_exists.mp hco
    obtain ⟨p, ep, code, TB⟩ := c.cod j ej
    have e : (ownNames kc.N own).map (·.2) = own := ownN h2
    unfold gscB at h3
    simp only [Bool.and_eq_true, Bool.not_eq_true', decide_eq_true_eq, List.all_eq_true] at h3
    obtain ⟨s1, s2, s3⟩ := h3
    have nc : ∀ y ∈ scope.names, y.2 ≠ .cell := fun y hy z => by
      have := s1 y hy
      rw [z] at this
      cases this
    have hr : Room (3 * k + (kc.sl - 1) + 1) X.A := by
      have z : 3 * k + (kc.sl - 1) + 1 = 3 * k + kc.sl := by omega
      rw [z]; exact c.room
    have inB : quaN q ∈ BN := by cases q <;> decide +kernel
    have P := pe_gq (X := X) (k := q) (p := px) (gpos := gpos) (pos := pos) (wi := WpI X T I) (g := gQ X (3 * k + (kc.sl - 1)) scope T) (tt := ttQ X (3 * k + (kc.sl - 1)) scope Cs) (te := teQ X (3 * k + (kc.sl - 1)) scope B) gx (c.mgs.blt _ inB) hr (by rw [c.hN]; exact c.nd) TB code c.calm
      (blkOk_by (by rw [c.hN, c.hsc]; exact h1)) nc s2 s3 (gfold (ckI_good h7) h4) piW (fun i r => ⟨fun pins s σ H v u Q I r' h => h ⟨i, r⟩ pins s u I r'⟩) (fun i r => ⟨fun pins s σ H Q I h => h ⟨i, r⟩ pins s I⟩) (fun i r => ⟨fun pins s σ H Q I h => h ⟨i, r⟩ pins s I⟩)
    rw [e] at P
    exact fun pv σa σ H G F Q st pp => ofPE P (gq_read c he hc hi (List.mem_of_getElem? ep) h5 h6 h7 h8 h9 st pp)
  · cases h
/-! ### all of them -/
mutual
theorem sound : ∀ e : Ex, Snd w e
  | .v i => snd_v i
  | .fz i => snd_fz i
  | .int i => snd_int i
  | .str i => snd_str i
  | .bl i => snd_bl i
  | .non => snd_non
  | .con x => snd_con x
  | .neg a => snd_neg (sound a)
  | .bin o a b => snd_bin o (sound a) (sound b)
  | .cmp o a b => snd_cmp o (sound a) (sound b)
  | .chain o p a b c => snd_chain o p (sound a) (sound b) (sound c)
  | .bop k a b => snd_bop k (sound a) (sound b)
  | .not a => snd_not (sound a)
  | .ite c a b => snd_ite (sound c) (sound a) (sound b)
  | .ix a i => snd_ix (sound a) (sound i)
  | .sl a lo hi => snd_sl (sound a) (soundO lo) (soundO hi)
  | .tup es => snd_tup (sounds es)
  | .lst es => snd_lst (sounds es)
  | .call f es => snd_call f (sounds es)
  | .callO f j es => snd_callO f j (sounds es)
  | .blt f es => snd_blt f (sounds es)
  | .isi a t => snd_isi t (sound a)
  | .mth m a es => snd_mth m (sound a) (sounds es)
  | .ixP j i => snd_ixP j (sound i)
  | .lenP j => snd_lenP j
  | .spc s a => snd_spc s (sound a)
  | .srtK j => snd_srtK j
  | .inP j a => snd_inP j (sound a)
  | .lc elt _ it cs _ => snd_lc (sound elt) (soundC cs) (soundI it)
  | .lc2 elt _ it _ it1 cs _ _ => snd_lc2 (sound elt) (soundC cs) (soundI it) (soundI it1)
  | .gq _ elt _ it cs _ => snd_gq (sound elt) (soundC cs) (soundI it)
termination_by structural e => e
theorem sounds : ∀ es : List Ex, SndL w es
  | [] => sndL_nil
  | e :: es => sndL_cons (sound e) (sounds es)
termination_by structural es => es
theorem soundO : ∀ o : OEx, SndO w o
  | .no => sndO_no
  | .so e => sndO_so (sound e)
termination_by structural e => e
theorem soundC : ∀ o : OEx, SndC w o
  | .no => sndC_no
  | .so e => sndC_so (sound e)
termination_by structural e => e
theorem soundI : ∀ i : Ir, SndI w i
  | .of e => sndI_of (sound e)
  | .range1 a => sndI_range1 (sound a)
  | .range2 a b => sndI_range2 (sound a) (sound b)
  | .zip a b => sndI_zip (sound a) (sound b)
  | .enum a => sndI_enum (sound a)
  | .enumz a b => sndI_enumz (sound a) (sound b)
termination_by structural e => e
end
end
end N
/-! N12: statements: do they spell the row's; contexts; plain ones. -/
namespace N
open PySem PySem.Spec PyProof.Rows L2
def fnB (sc : Scope) : Bool := match sc.kind with
  | .function => true
  | _ => false
def isLc : Expr → Bool
  | .ListComp .. => true
  | _ => false
def strKs : List Str → List (Option Expr) → Bool
  | [], [] => true
  | k :: ks, some (.Constant (.str x) _ _) :: r => decide (k = x) && strKs ks r
  | _, _ => false
/-- no swap of stores: a tuple's items are constants, or it is not a tuple -/
def notLoc (sc : Scope) : Expr → Bool
  | .Name x _ => !locB sc x
  | _ => true
def noSwapT (sc : Scope) (T E : Expr) : Bool := match T, E with
  | .Tuple ts _ _, .Tuple vs _ _ => !(ts.length == 2 || ts.length == 3) || (vs.all (foldedForSure 8) || ts.any (notLoc sc))
  | .List .., _ => false
  | _, _ => true
def isNameT : Expr → Bool
  | .Name .. => true
  | _ => false
def isB (kc : Kc) (n : Nat) (y b : Str) : Expr → Bool
  | .Call (.Name f _) [.Name z _, .Name u _] [] _ => (decide (f = "isinstance") && (kc.gl f && (kc.var n z && decide (z = y)))) && (decide (u = b) && kc.gl b)
  | _ => false
def cstB : PyData → Expr → Bool
  | .none, .Constant .none _ _ => true
  | .str x, .Constant (.str y) _ _ => decide (x = y)
  | .bool x, .Constant (.bool y) _ _ => x == y
  | _, _ => false
/-- what a caught error answers -/
def ansB (kc : Kc) (n : Nat) (y b : Str) (a : Option PyData) (R : Expr) : Bool := match a, R with
  | none, R => isB kc n y b R
  | some d, .IfExp T A _ _ => isB kc n y b T && cstB d A
  | _, _ => false
mutual
def ckS : Cm → Kc → Stmt → Bool
  | .asg t e => fun kc S => match S with
    | .Assign [T] E _ => (ckT kc t T && (isNameT T || isTup T)) && ((ck e).e kc E && noSwapT kc.sc T E)
    | _ => false
  | .asg2 i j e => fun kc S => match S with
    | .Assign [.Name x _, .Name y _] E _ => (kc.sto i x && kc.sto j y) && (ck e).e kc E
    | _ => false
  | .par2 i j a b => fun kc S => match S with
    | .Assign [.Tuple [.Name x px, .Name y py] _ _] (.Tuple [A, B] _ _) _ => ((decide (kc.N[i]? = some x) && decide (kc.N[j]? = some y)) && ((locB kc.sc x && locB kc.sc y) && (decide (x ≠ y) && (px.line == py.line)))) &&
        (!(foldedForSure 8 A && foldedForSure 8 B) && (!(constantsAlone 8 A && constantsAlone 8 B) && ((ck a).e kc A && (ck b).e kc B)))
    | _ => false
  | .own i e => fun kc S => match S with
    | .Assign [.Name x _] E _ => kc.sto i x && (ck e).e kc E
    | _ => false
  | .ownD i ks es => fun kc S => match S with
    | .Assign [.Name x _] (.Dict Ks Es _) _ => kc.sto i x && (strKs ks Ks && cks es kc Es)
    | _ => false
  | .ownC i f es => fun kc S => match S with
    | .Assign [.Name y _] (.Call (.Name x _) Es [] _) _ => kc.sto i y && ((kc.gl x && kc.fn f x es.length false) && cks es kc Es)
    | _ => false
  | .mv i j => fun kc S => match S with
    | .Assign [.Name x _] (.Name y _) _ => kc.sto i x && kc.var j y
    | _ => false
  | .aug i o e => fun kc S => match S with
    | .AugAssign (.Name x _) p E _ => kc.sto i x && (opBB o p && (ck e).e kc E)
    | _ => false
  | .app j e => fun kc S => match S with
    | .Expr (.Call (.Attribute (.Name x _) m apos) [E] [] pos) _ => (decide (m = "append") && (apos.endLine == pos.line)) && (kc.var j x && (ck e).e kc E)
    | _ => false
  | .parL i j a x b => fun kc S => match S with
    | .Assign [.Tuple [.Name z px, .Name y py] _ _] (.Tuple [A, .BinOp C p B bp] _ _) _ => ((decide (kc.N[i]? = some z) && decide (kc.N[j]? = some y)) && ((locB kc.sc z && locB kc.sc y) && (decide (z ≠ y) && (px.line == py.line)))) &&
        (!(foldedForSure 8 A && foldedForSure 8 (.BinOp C p B bp)) && (!(constantsAlone 8 A && constantsAlone 8 (.BinOp C p B bp)) && (opBB .mul p && ((ck a).e kc A && ((ck x).e kc C && (ck b).e kc B)))))
    | _ => false
  | .ownE i => fun kc S => match S with
    | .Assign [.Name x _] (.Dict [] [] _) _ => kc.sto i x
    | _ => false
  | .rem j e => fun kc S => match S with
    | .Expr (.Call (.Attribute (.Name x _) m apos) [E] [] pos) _ => (decide (m = "remove") && (apos.endLine == pos.line)) && (kc.var j x && (ck e).e kc E)
    | _ => false
  | .ext j e => fun kc S => match S with
    | .AugAssign (.Name x _) p E _ => (kc.sto j x && opBB .add p) && (ck e).e kc E
    | _ => false
  | .setP j i e => fun kc S => match S with
    | .Assign [.Subscript (.Name x _) I _] E _ => kc.var j x && ((ck i).e kc I && (ck e).e kc E)
    | _ => false
  | .augP j i o e => fun kc S => match S with
    | .AugAssign (.Subscript (.Name x _) I _) p E _ => kc.var j x && (opBB o p && ((ck i).e kc I && (ck e).e kc E))
    | _ => false
  | .ex e => fun kc S => match S with
    | .Expr E _ => !isLc E && (ck e).e kc E
    | _ => false
  | .ifs c a b => fun kc S => match S with
    | .If C A B _ => (ck c).e kc C && (ckSs a kc A && ckSs b kc B)
    | _ => false
  | .whl c b => fun kc S => match S with
    | .While C B [] _ => (ck c).e kc C && ckSs b kc B
    | _ => false
  | .for t it b => fun kc S => match S with
    | .For T I B [] _ => ckT kc t T && (ckI it kc T I && ckSs b kc B)
    | _ => false
  | .fgt _ => fun _ _ => false
  | .ret e => fun kc S => match S with
    | .Return (some E) _ => (ck e).e kc E
    | .Return none _ => match e with
      | .non => true
      | _ => false
    | _ => false
  | .retO i => fun kc S => match S with
    | .Return (some (.Name x _)) _ => kc.var i x
    | _ => false
  | .retD ks es => fun kc S => match S with
    | .Return (some (.Dict Ks Es _)) _ => strKs ks Ks && cks es kc Es
    | _ => false
  | .brk => fun _ S => match S with
    | .Break _ => true
    | _ => false
  | .cont => fun _ S => match S with
    | .Continue _ => true
    | _ => false
  | .pass => fun _ S => match S with
    | .Pass _ => true
    | _ => false
  | .raise c m => fun kc S => match S with
    | .Raise (some (.Call (.Name x _) [.Constant (.str y) _ _] [] _)) none _ => (decide (x = c) && kc.gl x) && decide (y = m)
    | _ => false
  | .tryIs body n c b a => fun kc S => match S with
    | .Try B [.ExceptHandler (some (.Name x _)) (some y) [.Return (some R) _] _] [] [] _ =>
        ((decide (x = c) && kc.gl c) && (decide (kc.N[n]? = some y) && locB kc.sc y)) && (ansB kc n y b a R && ckSs body kc B)
    | _ => false
termination_by structural s => s
def ckSs : List Cm → Kc → List Stmt → Bool
  | [] => fun _ Ss => match Ss with
    | [] => true
    | _ => false
  | s :: ss => fun kc Ss => match s with
    | .fgt _ => ckSs ss kc Ss
    | _ => match Ss with
      | S :: Ss => ckS s kc S && ckSs ss kc Ss
      | [] => false
termination_by structural ss => ss
end
/-! ### contexts -/
/-- a class whose instances are raised and caught -/
structure ExcAll (K : PySem.W.Frag) (mg : Str → Option Value) (c : Str) (C : Addr) : Prop where
  here : mg c = some (.ref C)
  keep : PySem.W.keepIn K (.ref C) = true
  own : ∃ B newId initId bmB, ExcBaseFacts B newId initId bmB ∧ PySem.W.excIn K C bmB newId = true
  base : PySem.W.subIn K (.ref C) (.type "BaseException") = some true
  typ : PySem.W.typeIn K (.ref C) = some (.type "type")
  exm : PySem.W.exmOne K (.ref C) (.ref C) = some true
  isx : ExcC K C
/-- and one that it is an instance of -/
structure ExcSub (K : PySem.W.Frag) (mg : Str → Option Value) (w : Wd) (c b : Str) : Prop where
  all : ExcAll K mg c (w.ca c)
  base : mg b = some (.ref (w.ca b))
  kit : PySem.W.kitOne K (.ref (w.ca c)) (.ref (w.ca b)) = some true
structure CokS (w : Wd) (kc : Kc) (k : Nat) (X : Cx) (W : WX) : Prop extends Cok w kc k X W where
  stk : X.stack = X.env :: X.outer
  frm : X.env.frame = some X.env.locals
  pas : PassesOwn (model X.prog X.w) X.A X.env X.xe
  fun' : X.env.scope.kind = .function
  exs : ∀ p ∈ w.P.sub, ExcSub w.K X.mg w p.1 p.2
section
variable {w : Wd} {kc : Kc} {k : Nat} {X : Cx} {W : WX} {pv : V} {σa : En} {σ : L2.St} {H G H1 G1 : Hp} {F F1 : Fp} {E A B I T : Expr} {S : Stmt} {Ss : List Stmt}
def WpS (X : Cx) (S : Stmt) : TS := fun D σ H => ∀ pins s, Inv X pins σ H s → wpAny (model X.prog X.w) X.A (exec S X.env) (SP X pins D) X.xe s
def WpSs (X : Cx) (S : List Stmt) : TS := fun D σ H => ∀ pins s, Inv X pins σ H s → wpAny (model X.prog X.w) X.A (execs S X.env) (SP X pins D) X.xe s
theorem psW : PS X S (WpS X S) := ⟨fun pins s σ H D I h => h pins s I⟩
theorem pssW : PSs X Ss (WpSs X Ss) := ⟨fun pins s σ H D I h => h pins s I⟩
theorem ofPS {t : TS} (p : PS X S t) {D : Ends} (h : t D σ H) : WpS X S D σ H := fun pins s I => p.run pins s σ H D I h
theorem ofPSs {t : TS} (p : PSs X Ss t) {D : Ends} (h : t D σ H) : WpSs X Ss D σ H := fun pins s I => p.run pins s σ H D I h
/-- wanted behind statements -/
def KS (w : Wd) (pv : V) (D : Ends) : Ko (Fl × En) := fun p H' G' F' => match p.1 with
  | .nx => ∀ σ', StOk w pv p.2 σ' H' G' F' → D.nx σ' H'
  | .bk => ∀ σ', StOk w pv p.2 σ' H' G' F' → D.bk σ' H'
  | .ct => ∀ σ', StOk w pv p.2 σ' H' G' F' → D.ct σ' H'
  | .rt r => ∀ σ' v, StOk w pv (resS r :: p.2) (some v :: σ') H' G' F' → D.rt v H'
def KXs (w : Wd) (W : WX) : Str → Hp → Prop := fun c H' => ∀ σ', W (.ref (w.ca c)) none σ' H'
theorem KXs.at {c : Str} (h : KXs w W c H) : KX w W σ c H := h σ
def SSt (w : Wd) (X : Cx) (W : WX) (S : Stmt) (f : Rn) : Prop := ∀ (pv : V) (σa : En) (σ : L2.St) (H G : Hp) (F : Fp) (D : Ends), StOk w pv σa σ H G F → Post w H G F (f σa) (KS w pv D) (KXs w W) → WpS X S D σ H
def SSts (w : Wd) (X : Cx) (W : WX) (Ss : List Stmt) (f : Rn) : Prop := ∀ (pv : V) (σa : En) (σ : L2.St) (H G : Hp) (F : Fp) (D : Ends), StOk w pv σa σ H G F → Post w H G F (f σa) (KS w pv D) (KXs w W) → WpSs X Ss D σ H
def SndS (w : Wd) (s : Cm) : Prop := ∀ {kc k X W S}, CokS w kc k X W → ckS s kc S = true → SSt w X W S (run w.P.C w.P.sub (callF w.P k) s)
def SndSs (w : Wd) (s : List Cm) : Prop := ∀ {kc k X W Ss}, CokS w kc k X W → ckSs s kc Ss = true → SSts w X W Ss (runs w.P.C w.P.sub (callF w.P k) s)
theorem Post.thenS {α β : Type} {r : Res α} {f : α → Res β} {k : Ko β} {k' : Ko α} (h : Post w H G F (r.bind f) k (KXs w W)) (i : ∀ a H' G' F', r = .ok a → Step w H G F H' G' F' → Post w H' G' F' (f a) k (KXs w W) → k' a H' G' F') : Post w H G F r k' (KX w W σ) :=
  h.bind.imp i fun _ _ z => z.at
/-! ### slots in front -/
theorem StOk.cons (st : StOk w pv σa σ H G F) {s : Slot} {v : V} {f : List Addr} (h : SlotOk w.K pv H G (some (some v)) s f) (d : ∀ a ∈ f, ∀ i, a ∉ F i) (fr : ∀ a ∈ f, G a = none) (th : ∀ a ∈ f, ∃ o, H a = some o ∧ Mut (some o)) :
    StOk w pv (s :: σa) (some v :: σ) H G (consF f F) := by
  refine ⟨by simp [st.len], st.sub, fun i x e => ?_, fun i j n a m => ?_, fun i a m => ?_, fun i a m => ?_, st.tab⟩
  · cases i with
    | zero => cases e; exact h
    | succ i => exact st.slot i x e
  · cases i with
    | zero =>
      cases j with
      | zero => exact absurd rfl n
      | succ j => exact d a m j
    | succ i =>
      cases j with
      | zero => exact fun z => d a z i m
      | succ j => exact st.disj i j (fun z => n (by rw [z])) a m
  · cases i with
    | zero => exact fr a m
    | succ i => exact st.free i a m
  · cases i with
    | zero => exact th a m
    | succ i => exact st.there i a m
theorem StOk.consD (st : StOk w pv σa σ H G F) {x : D} {v : V} (r : Rp w.K G v x) : StOk w pv (.d x :: σa) (some v :: σ) H G (consF [] F) ∧ Step w H G F H G (consF [] F) := by
  refine ⟨st.cons ⟨v, rfl, r⟩ (fun _ m => nomatch m) (fun _ m => nomatch m) (fun _ m => nomatch m), Step.same fun i a m => ?_⟩
  cases i with
  | zero => cases m
  | succ i => exact ⟨i, m⟩
/-- the front slot put at i -/
theorem StOk.uncons {s : Slot} {v : V} (st : StOk w pv (s :: σa) (some v :: σ) H G F) (i : Nat) (hs : ∀ m, s ≠ .m true m) : StOk w pv (σa.set i s) (σ.set i (some v)) H G (fun j => if j = i then F 0 else F (j + 1)) ∧ Step w H G F H G (fun j => if j = i then F 0 else F (j + 1)) := by
  have hl : σa.length = σ.length := by have := st.len; simpa using this
  refine ⟨⟨by simp [hl], st.sub, fun j x e => ?_, fun j j' n a m => ?_, fun j a m => ?_, fun j a m => ?_, st.tab⟩, Step.same fun j a m => ?_⟩
  · by_cases h : j = i
    · subst h
      rw [List.getElem?_set] at e
      simp only [if_true] at e
      split at e
      · rename_i hlt
        cases e
        rw [if_pos rfl, List.getElem?_set_self (by rw [← hl]; exact hlt)]
        exact st.slot 0 s rfl
      · cases e
    · rw [List.getElem?_set_ne (Ne.symm h)] at e ⊢
      rw [if_neg h]
      exact st.slot (j + 1) x e
  · by_cases h : j = i
    · rw [if_pos h] at m
      by_cases h' : j' = i
      · exact absurd (h.trans h'.symm) n
      · rw [if_neg h']; exact st.disj 0 (j' + 1) (fun z => nomatch z) a m
    · rw [if_neg h] at m
      by_cases h' : j' = i
      · rw [if_pos h']; exact st.disj (j + 1) 0 (fun z => nomatch z) a m
      · rw [if_neg h']; exact st.disj (j + 1) (j' + 1) (fun z => n (Nat.succ.inj z)) a m
  · by_cases h : j = i
    · rw [if_pos h] at m; exact st.free 0 a m
    · rw [if_neg h] at m; exact st.free (j + 1) a m
  · by_cases h : j = i
    · rw [if_pos h] at m; exact st.there 0 a m
    · rw [if_neg h] at m; exact st.there (j + 1) a m
  · by_cases h : j = i
    · rw [if_pos h] at m; exact ⟨0, m⟩
    · rw [if_neg h] at m; exact ⟨j + 1, m⟩
/-- a list of its own, as a slot in front -/
theorem EndI.front {H0 G0 : Hp} {F0 : Fp} {D : Addr} {acc : List PyData} {accV : List V} (e : EndI w pv H0 G0 F0 σa σ D acc accV H G F) : StOk w pv (.m false (.l (acc.map .d)) :: σa) (some (.ref D) :: σ) H G (consF [D] F) := by
  refine e.st.cons ⟨_, rfl, .l e.hD (.ofAll e.rp) (by simp), fun z => nomatch z⟩ (fun a m i => ?_) (fun a m => ?_) (fun a m => ?_)
  all_goals
    have z : a = D := by simpa using m
    subst z
  · exact e.fD i
  · exact e.gD
  · exact ⟨_, e.hD, trivial⟩
/-! ### an assignment to one name -/
def swC (sc : Scope) (y : Str) (py : Pos) : Expr → Bool
  | .ListComp _ _ s p => (sc.names.lookup y == some .local && py.line == p.line) && !(s.names.any fun (n, k) => n == y && (k == .local || k == .cell))
  | _ => false
theorem blockFn {env : PySem.Env} (h : env.scope.kind = .function) : env.blockKind = .function := by unfold Env.blockKind; rw [h]; rfl
theorem sw_eq {env : PySem.Env} {y : Str} {py : Pos} {l : Nat} (hk : env.scope.kind = .function) (g : goodE E = true) : swapsWith E (some (.Name y py)) l env = pure (swC env.scope y py E) := by
  have hb := blockFn hk
  cases E <;> first | rfl | (exact Bool.noConfusion g) | skip
  rename_i elt gs s p
  unfold swapsWith swC PySem.Env.kindOf
  simp only [hb, Expr.pos]
  rfl
theorem sw_none {env : PySem.Env} {t : Option Expr} {l : Nat} (g : goodE E = true) (n : isLc E = false) : swapsWith E t l env = pure false := by
  cases E <;> first | rfl | (exact Bool.noConfusion g) | (exact Bool.noConfusion n)
/-- a frozen value put in slot i -/
theorem put_ok {D : Ends} {i : Nat} {x : PyData} (hpost : Post w H G F (.ok ((Fl.nx, σa.set i (.d x)) : Fl × En)) (KS w pv D) (KXs w W)) (st : StOk w pv σa σ H G F) {v : V} (r : Rp w.K G v x) : D.nx (σ.set i (some v)) H := by
  obtain ⟨s1, s2⟩ := st.putD (i := i) r
  exact hpost _ _ _ s2 _ s1
/-- how an expression goes to a name: a reading for a frozen value; for a new list of its own too -/
structure Asg (w : Wd) (k : Nat) (X : Cx) (W : WX) (e : Ex) (S : Stmt) (i : Nat) (te : TE) : Prop where
  ps : PS X S (tAsg te (gName i))
  rd : ∀ {pv σa σ H G F Q}, StOk w pv σa σ H G F → Post w H G F ((sm w.P.C (callF w.P k) e).v σa) (KE w pv σ Q) (KX w W σ) → te σ H Q
  nw : isC e = true → SNew w W te (sm w.P.C (callF w.P k) e).v
end
end N
/-! N13: plain statements. -/
namespace N
open PySem PySem.Spec PyProof.Rows L2
section
variable {w : Wd} {kc : Kc} {k : Nat} {X : Cx} {W : WX} {pv : V} {σa : En} {σ : L2.St} {H G H1 G1 : Hp} {F F1 : Fp} {E A B I T : Expr} {S : Stmt} {Ss : List Stmt}
theorem EndI.new {H0 G0 : Hp} {F0 : Fp} (st : StOk w pv σa σ H G F) (s : Step w H0 G0 F0 H G F) {p : Addr} (hp : H p = none) {vs : List V} {ds : List PyData} (r : RpAll w.K G vs ds) : EndI w pv H0 G0 F0 σa σ p ds vs (upd H p (.lst vs)) G F := by
  obtain ⟨n1, n2, n3⟩ := st.newNe hp
  refine ⟨st.atD n2 n1 n3, upd_same, r, n2, n1, n3, s.trans (st.alloc hp _).2, s.trans ⟨.refl G, fun a o e _ _ => ⟨?_, fun z => z⟩, fun i a m => ?_, fun q hq h => by rw [upd_ne (n3 q hq)]; exact h⟩⟩
  · rw [upd_ne (fun z => by rw [z, hp] at e; cases e)]; exact e
  · cases i with
    | zero =>
      have z : a = p := by simpa [consF] using m
      rw [z]; exact .inr hp
    | succ i => exact .inl ⟨i, m⟩
theorem snew_lst {es : List Ex} (c : Cok w kc k X W) (h : (ck (.lst es)).e kc E = true) : SNew w W (WpE X E) (sm w.P.C (callF w.P k) (.lst es)).v := by
  have h' : (goodE E && (match (generalizing := false) E with | .List Es _ => cks es kc Es | _ => false)) = true := h
  rw [Bool.and_eq_true] at h'
  replace h' := h'.2
  split at h'
  · intro pv σa σ H G F Q st pp fin
    refine ofPE (pe_lst paW) (sounds es c h' pv σa σ H G F _ st (Post.then pp fun q H1 G1 F1 eq s01 z st1 xs rs => ?_))
    split at z
    · rename_i hl
      refine ⟨by rw [rs.length, ← line_eq]; exact hl, fun a ha => fin q.2 a q.1 xs _ _ _ ?_ (.new st1 s01 ha rs)⟩
      show (sms w.P.C (callF w.P k) es σa).bind _ = _
      rw [eq, ok_bind, if_pos hl]
    · exact z.elim
  · cases h'
theorem snew_rep {es : List Ex} {b : Ex} (c : Cok w kc k X W) (h : (ck (.bin .mul (.lst es) b)).e kc E = true) : SNew w W (WpE X E) (sm w.P.C (callF w.P k) (.bin .mul (.lst es) b)).v := by
  have hs : sizeLine = 16777216 := sizeLine_eq
  have hL : LINE = 16777216 := rfl
  have h' : (goodE E && (match (generalizing := false) E with | .BinOp A p B _ => opBB .mul p && ((ck (.lst es)).e kc A && (ck b).e kc B) | _ => false)) = true := h
  rw [Bool.and_eq_true] at h'
  replace h' := h'.2
  split at h'
  · simp only [Bool.and_eq_true] at h'
    obtain ⟨h0, h1, h2⟩ := h'
    have e0 := opBB_eq h0
    subst e0
    intro pv σa σ H G F Q st pp fin
    refine ofPE (pe_op opRep peW peW) ((sound (.lst es)).v c h1 pv σa σ H G F _ st (Post.then pp fun q H1 G1 F1 eq s01 z st1 x rx => (sound b).v c h2 pv _ σ H1 G1 F1 _ st1 (Post.then z fun q2 H2 G2 F2 eq2 s12 z2 st2 y ry => ?_)))
    obtain ⟨d, e, _⟩ := z2.ofO
    obtain ⟨ql, _, e3⟩ := bind_ok (show (sms w.P.C (callF w.P k) es σa).bind _ = _ from eq)
    split at e3
    · cases e3
      have e' : mulD (.list ql.1) q2.1 = some d := e
      cases hq : q2.1 <;> rw [hq] at e' ry <;> simp only [mulD] at e' <;> try (cases e'; done)
      rename_i n
      split at e'
      · rename_i hr
        cases e'
        unfold repOk at hr
        simp only [Bool.and_eq_true, decide_eq_true_eq] at hr
        have hb := inB_of hr.1
        obtain ⟨a, vs, rfl, s1, r1⟩ := (rx.mono s12.gle).lst_inv
        refine ⟨a, n, vs, rfl, ry.int_inv, (by rw [c.hK]; exact st2.sub.sqL s1), ⟨by omega, by omega⟩, by rw [r1.length]; omega, fun p hp => fin q2.2 p _ _ _ _ _ ?_ (.new st2 (s01.trans s12) hp (r1.rep _))⟩
        show ((sm w.P.C (callF w.P k) (.lst es)).v σa).bind (fun p => ((sm w.P.C (callF w.P k) b).v p.2).bind fun q => (ofO (binD .mul p.1 q.1)).bind fun z => .ok (z, q.2)) = _
        rw [eq, ok_bind, eq2, ok_bind, e]
        rfl
      · cases e'
    · cases e3
  · cases h'
theorem snew_list {es : List Ex} (c : Cok w kc k X W) (h : (ck (.blt .list es)).e kc E = true) : SNew w W (WpE X E) (sm w.P.C (callF w.P k) (.blt .list es)).v := by
  have h' : (goodE E && (match (generalizing := false) E with | .Call (.Name x _) Es [] _ => (decide (x = bltN .list) && (kc.gl x && decide (0 < es.length))) && cks es kc Es | _ => false)) = true := h
  rw [Bool.and_eq_true] at h'
  replace h' := h'.2
  split at h'
  · rename_i x px Es pos
    simp only [Bool.and_eq_true, decide_eq_true_eq] at h'
    obtain ⟨⟨h1, h2, h4⟩, h3⟩ := h'
    subst h1
    obtain ⟨gx, ok⟩ := gl_of c h2
    obtain ⟨g1, l0⟩ := cks_good h3
    cases Es with
    | nil => rw [← l0] at h4; exact absurd h4 (by simp)
    | cons E Es =>
      rw [List.all_cons, Bool.and_eq_true] at g1
      intro pv σa σ H G F Q st pp fin
      refine ofPE (pe_blt .list call_list_of gx (c.mgs.blt _ (bltN_in .list)) paW g1.1 g1.2) (sounds es c h3 pv σa σ H G F _ st (Post.then pp fun q H1 G1 F1 eq s01 z st1 xs rs => ?_))
      obtain ⟨d, e, z⟩ := z.ofO
      have fin' : ∀ {ds : List PyData} {us : List V}, d = .list ds → RpAll w.K G1 us ds → ∀ p, H1 p = none → Q (.ref p) (upd H1 p (.lst us)) := fun {ds us} ed ru p hp => by
        subst ed
        refine fin q.2 p ds us _ _ _ ?_ (.new st1 s01 hp ru)
        show (sms w.P.C (callF w.P k) es σa).bind (fun p => (ofO (bltD .list p.1)).bind fun z => .ok (z, p.2)) = _
        rw [eq, ok_bind, e]
        rfl
      unfold bltD at e
      split at e <;> try (cases e; done)
      all_goals try (rename_i hf; cases hf; done)
      all_goals (try (rename_i hf _; cases hf; done))
      · rename_i ds hq
        cases e
        rw [hq] at rs
        obtain ⟨v, rfl, r⟩ := rp1 rs
        obtain ⟨p, us, rfl, s, ru⟩ := r.lst_inv
        exact ⟨p, us, rfl, .inl (by rw [c.hK]; exact st1.sub.sqL s), fin' rfl ru⟩
      · rename_i ds hq
        cases e
        rw [hq] at rs
        obtain ⟨v, rfl, r⟩ := rp1 rs
        obtain ⟨p, us, rfl, s, ru⟩ := r.tup_inv
        exact ⟨p, us, rfl, .inr (by rw [c.hK]; exact st1.sub.sqT s), fin' rfl ru⟩
  · cases h'
theorem lc_inv {elt : Ex} {tg : Tg} {it : Ir} {cs : OEx} {own : List Nat} (h : (ck (.lc elt tg it cs own)).e kc E = true) : ∃ B T I Cs scope pos, E = .ListComp B [⟨T, I, Cs, 0⟩] scope pos ∧ (blkC kc.N kc.sc scope (ownNames kc.N own) = true ∧ (own.all fun i => decide (i < kc.N.length)) = true) ∧
    (inT own tg = true ∧ ckT (kc.blk scope) tg T = true) ∧ ckI it kc T I = true ∧ ckC cs (kc.blk scope) Cs = true ∧ (ck elt).e (kc.blk scope) B = true := by
  have h' : (goodE E && (match (generalizing := false) E with
    | .ListComp B [⟨T, I, Cs, 0⟩] scope _ => ((blkC kc.N kc.sc scope (ownNames kc.N own) && (own.all fun i => decide (i < kc.N.length))) && (inT own tg && ckT (kc.blk scope) tg T)) && (ckI it kc T I && (ckC cs (kc.blk scope) Cs && (ck elt).e (kc.blk scope) B))
    | _ => false)) = true := h
  rw [Bool.and_eq_true] at h'
  replace h' := h'.2
  split at h'
  · simp only [Bool.and_eq_true] at h'
    exact ⟨_, _, _, _, _, _, rfl, h'.1.1, h'.1.2, h'.2.1, h'.2.2.1, h'.2.2.2⟩
  · cases h'
theorem lc2_inv {elt : Ex} {tg tg1 : Tg} {it it1 : Ir} {cs : OEx} {own own1 : List Nat} (h : (ck (.lc2 elt tg it tg1 it1 cs own own1)).e kc E = true) : ∃ B T I T1 I1 Cs scope pos, E = .ListComp B [⟨T, I, [], 0⟩, ⟨T1, I1, Cs, 0⟩] scope pos ∧
    (blkC kc.N kc.sc scope (ownNames kc.N own) = true ∧ (own.all fun i => decide (i < kc.N.length)) = true) ∧ ((inT own tg = true ∧ ckT (kc.blk scope) tg T = true) ∧ inT own1 tg1 = true ∧ ckT (kc.blk scope) tg1 T1 = true) ∧
    (ckI it kc T I = true ∧ (own1.all fun i => decide (i ∈ own)) = true) ∧ ckI it1 (kc.blk scope) T1 I1 = true ∧ ckC cs (kc.blk scope) Cs = true ∧ (ck elt).e (kc.blk scope) B = true := by
  have h' : (goodE E && (match (generalizing := false) E with
    | .ListComp B [⟨T, I, [], 0⟩, ⟨T1, I1, Cs, 0⟩] scope _ => ((blkC kc.N kc.sc scope (ownNames kc.N own) && (own.all fun i => decide (i < kc.N.length))) && ((inT own tg && ckT (kc.blk scope) tg T) && (inT own1 tg1 && ckT (kc.blk scope) tg1 T1))) &&
        ((ckI it kc T I && (own1.all fun i => decide (i ∈ own))) && (ckI it1 (kc.blk scope) T1 I1 && (ckC cs (kc.blk scope) Cs && (ck elt).e (kc.blk scope) B)))
    | _ => false)) = true := h
  rw [Bool.and_eq_true] at h'
  replace h' := h'.2
  split at h'
  · simp only [Bool.and_eq_true] at h'
    exact ⟨_, _, _, _, _, _, _, _, rfl, h'.1.1, h'.1.2, h'.2.1, h'.2.2.1, h'.2.2.2⟩
  · cases h'
theorem new_lc {elt : Ex} {tg : Tg} {it : Ir} {cs : OEx} {own : List Nat} (c : Cok w kc k X W) (h0 : (ck (.lc elt tg it cs own)).e kc E = true) : ∃ te, PE X E te ∧ SNew w W te (sm w.P.C (callF w.P k) (.lc elt tg it cs own)).v := by
  obtain ⟨B, T, I, Cs, scope, pos, rfl, ⟨h1, h2⟩, ⟨h3, h4⟩, h5, h6, h7⟩ := lc_inv h0
  have e : (ownNames kc.N own).map (·.2) = own := ownN h2
  have P := pe_lc (X := X) (pos := pos) (wi := WpI X T I) (g := gB X scope T) (tt := ttB X scope Cs) (te := teB X scope B) c.calm (by rw [c.hN]; exact c.nd) piW (blkOk_by (by rw [c.hN, c.hsc]; exact h1)) gB_ok ttB_ok teB_ok (good_folded' (ckI_good h5))
  rw [e] at P
  exact ⟨_, P, fun pv σa σ H G F Q st pp fin => lc_read c (sound elt) (soundC cs) (soundI it) h3 h4 h5 h6 h7 st pp fin⟩
theorem set_lc {elt : Ex} {tg : Tg} {it : Ir} {cs : OEx} {own : List Nat} (c : Cok w kc k X W) (h0 : (ck (.lc elt tg it cs own)).e kc E = true) {i : Nat} {y : Str} {py spos : Pos} (hy : X.N[i]? = some y) (hyl : X.env.scope.names.lookup y = some .local)
    (sw : swapsWith E (some (.Name y py)) spos.line X.env = pure true) : ∃ te, PS X (.Assign [.Name y py] E spos) (tAsg te (gName i)) ∧ SNew w W te (sm w.P.C (callF w.P k) (.lc elt tg it cs own)).v := by
  obtain ⟨B, T, I, Cs, scope, pos, rfl, ⟨h1, h2⟩, ⟨h3, h4⟩, h5, h6, h7⟩ := lc_inv h0
  have e : (ownNames kc.N own).map (·.2) = own := ownN h2
  have P := ps_setLc (X := X) (pos := pos) (wi := WpI X T I) (g := gB X scope T) (tt := ttB X scope Cs) (te := teB X scope B) c.calm (by rw [c.hN]; exact c.nd) hy hyl sw piW (blkOk_by (by rw [c.hN, c.hsc]; exact h1)) gB_ok ttB_ok teB_ok (good_folded' (ckI_good h5))
  rw [e] at P
  exact ⟨_, P, fun pv σa σ H G F Q st pp fin => lc_read c (sound elt) (soundC cs) (soundI it) h3 h4 h5 h6 h7 st pp fin⟩
theorem new_lc2 {elt : Ex} {tg tg1 : Tg} {it it1 : Ir} {cs : OEx} {own own1 : List Nat} (c : Cok w kc k X W) (h0 : (ck (.lc2 elt tg it tg1 it1 cs own own1)).e kc E = true) : ∃ te, PE X E te ∧ SNew w W te (sm w.P.C (callF w.P k) (.lc2 elt tg it tg1 it1 cs own own1)).v := by
  obtain ⟨B, T, I, T1, I1, Cs, scope, pos, rfl, ⟨h1, h2⟩, ⟨⟨h3, h4⟩, h5, h6⟩, ⟨h7, h8⟩, h9, h10, h11⟩ := lc2_inv h0
  have e : (ownNames kc.N own).map (·.2) = own := ownN h2
  have sub : ∀ i ∈ own1, i ∈ own := fun i m => of_decide_eq_true (List.all_eq_true.mp h8 i m)
  have gI1 := ckI_good h9
  have P := pe_lc2 (X := X) (pos := pos) (vs1 := own1) (wi := WpI X T I) (g := gB X scope T) (tt := tYes) (wi1 := tiB X scope T1 I1) (g1 := gB X scope T1) (tt1 := ttB X scope Cs) (te := teB X scope B) c.calm (by rw [c.hN]; exact c.nd) piW (blkOk_by (by rw [c.hN, c.hsc]; exact h1)) (by rw [e]; exact sub) gB_ok (fun _ _ _ _ _ => pts_nil) tiB_ok gB_ok ttB_ok teB_ok (good_folded' (ckI_good h7)) (fun env x => good_folded gI1 x)
  rw [e] at P
  exact ⟨_, P, fun pv σa σ H G F Q st pp fin => lc2_read c (sound elt) (soundC cs) (soundI it) (soundI it1) h3 h4 h5 h6 h7 sub h9 h10 h11 st pp fin⟩
theorem set_lc2 {elt : Ex} {tg tg1 : Tg} {it it1 : Ir} {cs : OEx} {own own1 : List Nat} (c : Cok w kc k X W) (h0 : (ck (.lc2 elt tg it tg1 it1 cs own own1)).e kc E = true) {i : Nat} {y : Str} {py spos : Pos} (hy : X.N[i]? = some y) (hyl : X.env.scope.names.lookup y = some .local)
    (sw : swapsWith E (some (.Name y py)) spos.line X.env = pure true) : ∃ te, PS X (.Assign [.Name y py] E spos) (tAsg te (gName i)) ∧ SNew w W te (sm w.P.C (callF w.P k) (.lc2 elt tg it tg1 it1 cs own own1)).v := by
  obtain ⟨B, T, I, T1, I1, Cs, scope, pos, rfl, ⟨h1, h2⟩, ⟨⟨h3, h4⟩, h5, h6⟩, ⟨h7, h8⟩, h9, h10, h11⟩ := lc2_inv h0
  have e : (ownNames kc.N own).map (·.2) = own := ownN h2
  have sub : ∀ i ∈ own1, i ∈ own := fun i m => of_decide_eq_true (List.all_eq_true.mp h8 i m)
  have gI1 := ckI_good h9
  have P := ps_setLc2 (X := X) (pos := pos) (vs1 := own1) (wi := WpI X T I) (g := gB X scope T) (tt := tYes) (wi1 := tiB X scope T1 I1) (g1 := gB X scope T1) (tt1 := ttB X scope Cs) (te := teB X scope B) c.calm (by rw [c.hN]; exact c.nd) hy hyl sw piW (blkOk_by (by rw [c.hN, c.hsc]; exact h1)) (by rw [e]; exact sub) gB_ok (fun _ _ _ _ _ => pts_nil) tiB_ok gB_ok ttB_ok teB_ok (good_folded' (ckI_good h7)) (fun env x => good_folded gI1 x)
  rw [e] at P
  exact ⟨_, P, fun pv σa σ H G F Q st pp fin => lc2_read c (sound elt) (soundC cs) (soundI it) (soundI it1) h3 h4 h5 h6 h7 sub h9 h10 h11 st pp fin⟩
theorem SNew.ofPE {te : TE} {f : En → Res (PyData × En)} (p : PE X E te) (h : SNew w W te f) : SNew w W (WpE X E) f := fun pv σa σ H G F Q st pp fin => N.ofPE p (h pv σa σ H G F Q st pp fin)
theorem scE (c : Cok w kc k X W) : X.env.scope = kc.sc := c.hsc
theorem isLc_lc {e : Ex} (h : (ck e).e kc E = true) (l : isLc E = true) : (∃ elt tg it cs own, e = .lc elt tg it cs own) ∨ ∃ elt tg it tg1 it1 cs own own1, e = .lc2 elt tg it tg1 it1 cs own own1 := by
  cases E <;> try (cases l; done)
  cases e <;> first
    | exact .inl ⟨_, _, _, _, _, rfl⟩
    | exact .inr ⟨_, _, _, _, _, _, _, _, rfl⟩
    | (exfalso; exact Bool.noConfusion h)
    | (exfalso; rename_i s _; cases s <;> exact Bool.noConfusion h)
    | skip
theorem asg_of (c : CokS w kc k X W) {e : Ex} (h : (ck e).e kc E = true) {i : Nat} {y : Str} {py spos : Pos} (hs : kc.sto i y = true) : ∃ te, Asg w k X W e (.Assign [.Name y py] E spos) i te := by
  have g := ck_good h
  have hnd : X.N.Nodup := by rw [c.hN]; exact c.nd
  obtain ⟨n1, n2, n3⟩ := sto_of c.toCok hs
  have sw := sw_eq (y := y) (py := py) (l := spos.line) c.fun' g
  cases hsw : swC X.env.scope y py E with
  | false =>
    rw [hsw] at sw
    refine ⟨WpE X E, ⟨ps_set hnd n1 n2 peW sw n3, fun {pv σa σ H G F Q} st pp => (sound e).v c.toCok h pv σa σ H G F Q st pp, fun hc => ?_⟩⟩
    cases e <;> try (cases hc; done)
    case lst es => exact snew_lst c.toCok h
    case bin o a b =>
      cases o <;> try (cases hc; done)
      cases a <;> try (cases hc; done)
      exact snew_rep c.toCok h
    case blt f es =>
      cases f <;> try (cases hc; done)
      exact snew_list c.toCok h
    case lc elt tg it cs own =>
      obtain ⟨te, p, q⟩ := new_lc c.toCok h
      exact q.ofPE p
    case lc2 elt tg it tg1 it1 cs own own1 =>
      obtain ⟨te, p, q⟩ := new_lc2 c.toCok h
      exact q.ofPE p
  | true =>
    rw [hsw] at sw
    have l : isLc E = true := by cases E <;> first | rfl | cases hsw
    rcases isLc_lc h l with ⟨elt, tg, it, cs, own, rfl⟩ | ⟨elt, tg, it, tg1, it1, cs, own, own1, rfl⟩
    · obtain ⟨te, p, q⟩ := set_lc c.toCok h n1 (by
        cases E <;> try (cases hsw; done)
        unfold swC at hsw
        simp only [Bool.and_eq_true] at hsw
        simpa using hsw.1.1) sw
      exact ⟨te, p, fun {pv σa σ H G F Q} st pp => q.read st pp, fun _ => q⟩
    · obtain ⟨te, p, q⟩ := set_lc2 c.toCok h n1 (by
        cases E <;> try (cases hsw; done)
        unfold swC at hsw
        simp only [Bool.and_eq_true] at hsw
        simpa using hsw.1.1) sw
      exact ⟨te, p, fun {pv σa σ H G F Q} st pp => q.read st pp, fun _ => q⟩
end
end N
/-! N14: assignments. -/
namespace N
open PySem PySem.Spec PyProof.Rows L2
section
variable {w : Wd} {kc : Kc} {k : Nat} {X : Cx} {W : WX} {pv : V} {σa : En} {σ : L2.St} {H G H1 G1 : Hp} {F F1 : Fp} {E A B I T : Expr} {S : Stmt} {Ss : List Stmt}
theorem PX {α : Type} {r : Res α} {k : Ko α} (h : Post w H G F r k (KXs w W)) : Post w H G F r tru (KX w W σ) := h.imp (fun _ _ _ _ _ _ _ => trivial) fun _ _ z => z.at
theorem fm_less {α β : Type} {f : α → Option β} : ∀ {l : List α}, (∃ x ∈ l, f x = none) → (l.filterMap f).length < l.length
  | [], h => by obtain ⟨_, m, _⟩ := h; cases m
  | a :: l, h => by
    rw [List.filterMap_cons]
    cases e : f a with
    | none => exact Nat.lt_succ_of_le (List.length_filterMap_le f l)
    | some b =>
      obtain ⟨x, m, ex⟩ := h
      rcases List.mem_cons.mp m with z | z
      · rw [z, e] at ex; cases ex
      · exact Nat.succ_lt_succ (fm_less ⟨x, z, ex⟩)
theorem swS_none {env : PySem.Env} (h : noSwapT env.scope T E = true) : swappedStores [T] E env = pure none := by
  cases T <;> first | rfl | (cases h; done) | skip
  rename_i ts kt pt
  cases E <;> first | rfl | skip
  rename_i vs kv pv'
  have h' : (!(ts.length == 2 || ts.length == 3) || (vs.all (foldedForSure 8) || ts.any (notLoc env.scope))) = true := h
  unfold swappedStores
  dsimp only
  by_cases c1 : (!(ts.length == 2 || ts.length == 3) || vs.length != ts.length || env.blockKind != .function) = true
  · rw [if_pos c1]
  · rw [if_neg c1]
    have c2 : (vs.all (foldedForSure 8) || ts.any (notLoc env.scope)) = true := by
      rw [Bool.or_eq_true] at h'
      rcases h' with z | z
      · exfalso
        apply c1
        rw [z]
        rfl
      · exact z
    split
    · rfl
    · split
      · rfl
      · rename_i c3
        rw [Bool.or_eq_true] at c2
        rcases c2 with z | z
        · rw [z]
          rfl
        · exfalso
          apply c3
          rw [Bool.or_eq_true]
          left
          rw [bne_iff_ne]
          refine Nat.ne_of_lt (fm_less ?_)
          rw [List.any_eq_true] at z
          obtain ⟨x, m, hx⟩ := z
          refine ⟨x, m, ?_⟩
          cases x <;> first | rfl | skip
          rename_i id p
          have hx' : (!locB env.scope id) = true := hx
          have k : (env.kindOf id == some NameKind.local) = false := by
            unfold locB at hx'
            unfold PySem.Env.kindOf
            cases e : env.scope.names.lookup id with
            | none => rfl
            | some q => rw [e] at hx'; cases q <;> first | rfl | cases hx'
          dsimp only
          rw [k]
          rfl
theorem swSole {env : PySem.Env} {l : Nat} (g : goodE E = true) (t : isNameT T = false) : swapsWithSole [T] E l env = pure false := by
  unfold swapsWithSole
  cases E <;> first | rfl | (exact Bool.noConfusion g) | skip
  cases T <;> first | rfl | (exact Bool.noConfusion t)
theorem snd_asg (t : Tg) (e : Ex) : SndS w (.asg t e) := fun {kc k X W S} c h => by
  have h' : (match (generalizing := false) S with
    | .Assign [T] E _ => (ckT kc t T && (isNameT T || isTup T)) && ((ck e).e kc E && noSwapT kc.sc T E)
    | _ => false) = true := h
  split at h'
  · rename_i T E spos
    simp only [Bool.and_eq_true] at h'
    obtain ⟨⟨h1, h2⟩, h3, h4⟩ := h'
    intro pv σa σ H G F D st pp
    cases hn : isNameT T with
    | true =>
      cases T <;> try (cases hn; done)
      rename_i y py
      cases t with
      | t ts => exact Bool.noConfusion h1
      | n i =>
        obtain ⟨te, a⟩ := asg_of (spos := spos) (py := py) c h3 (show kc.sto i y = true from h1)
        refine ofPS a.ps (a.rd st (Post.thenS pp fun q H1 G1 F1 _ _ z st1 v rv => ?_))
        exact put_ok z st1 rv
    | false =>
      refine ofPS (ps_asg peW pgW (swSole (ck_good h3) hn) (swS_none (by rw [c.hsc]; exact h4)) (by
        cases T <;> first | rfl | (cases hn; done) | (rw [hn] at h2; cases h2))) ((sound e).v c.toCok h3 pv σa σ H G F _ st (Post.thenS pp fun q H1 G1 F1 _ _ z st1 v rv => ?_))
      obtain ⟨σ1, e1, z⟩ := z.ofO
      exact tgt c.toCok h1 e1 st1 rv fun σ' F' st' s' _ => z _ _ _ s' _ st'
  · cases h'
theorem snd_asg2 (i j : Nat) (e : Ex) : SndS w (.asg2 i j e) := fun {kc k X W S} c h => by
  have h' : (match (generalizing := false) S with
    | .Assign [.Name x _, .Name y _] E _ => (kc.sto i x && kc.sto j y) && (ck e).e kc E
    | _ => false) = true := h
  split at h'
  · rename_i x px y py E spos
    simp only [Bool.and_eq_true] at h'
    obtain ⟨⟨h1, h2⟩, h3⟩ := h'
    have hnd : X.N.Nodup := by rw [c.hN]; exact c.nd
    obtain ⟨a1, a2, a3⟩ := sto_of c.toCok h1
    obtain ⟨b1, b2, b3⟩ := sto_of c.toCok h2
    intro pv σa σ H G F D st pp
    refine ofPS (ps_asg2 peW (pg_name hnd a1 a2 a3) (pg_name hnd b1 b2 b3)) ((sound e).v c.toCok h3 pv σa σ H G F _ st (Post.thenS pp fun q H1 G1 F1 _ _ z st1 v rv => ?_))
    obtain ⟨s2, t2⟩ := st1.putD (i := i) rv
    obtain ⟨s3, t3⟩ := s2.putD (i := j) rv
    exact z _ _ _ (t2.trans t3) _ s3
  · cases h'
theorem sw_par {env : PySem.Env} {x y : Str} {px py pt p2 : Pos} {k1 k2 : Nat} (hk : env.scope.kind = .function) (hx : env.scope.names.lookup x = some .local) (hy : env.scope.names.lookup y = some .local) (n : x ≠ y) (hl : (px.line == py.line) = true)
    (gA : goodE A = true) (gB : goodE B = true) (f : (foldedForSure 8 A && foldedForSure 8 B) = false) (cc : (constantsAlone 8 A && constantsAlone 8 B) = false) : swappedStores [.Tuple [.Name x px, .Name y py] k1 pt] (.Tuple [A, B] k2 p2) env = pure (some [x, y]) := by
  have hb := blockFn hk
  have e1 : env.kindOf x = some .local := hx
  have e2 : env.kindOf y = some .local := hy
  have hl' : (py.line == px.line) = true := by rw [beq_iff_eq] at hl ⊢; exact hl.symm
  have ny : (y == x) = false := by rw [beq_eq_false_iff_ne]; exact fun z => n z.symm
  have f' : [A, B].all (foldedForSure 8) = false := by simpa [List.all_cons] using f
  have c' : [A, B].all (constantsAlone 8) = false := by simpa [List.all_cons] using cc
  unfold swappedStores
  dsimp only
  rw [hb]
  rw [if_neg (by simp)]
  split
  · rename_i hs
    exfalso
    simp only [List.any_cons, List.any_nil, Bool.or_false, Bool.or_eq_true] at hs
    rcases hs with z | z
    · cases A <;> first | (cases z; done) | (exact Bool.noConfusion gA)
    · cases B <;> first | (cases z; done) | (exact Bool.noConfusion gB)
  · simp only [List.head?_cons, Option.map_some, Option.getD_some, List.filterMap_cons, List.filterMap_nil, e1, e2, Expr.pos, hl', beq_self_eq_true, Bool.and_self, if_true, f', c']
    rw [if_neg (by simp [List.eraseDups_cons, ny])]
    rfl
theorem snd_par2 (i j : Nat) (a b : Ex) : SndS w (.par2 i j a b) := fun {kc k X W S} c h => by
  have h' : (match (generalizing := false) S with
    | .Assign [.Tuple [.Name x px, .Name y py] _ _] (.Tuple [A, B] _ _) _ => ((decide (kc.N[i]? = some x) && decide (kc.N[j]? = some y)) && ((locB kc.sc x && locB kc.sc y) && (decide (x ≠ y) && (px.line == py.line)))) &&
        (!(foldedForSure 8 A && foldedForSure 8 B) && (!(constantsAlone 8 A && constantsAlone 8 B) && ((ck a).e kc A && (ck b).e kc B)))
    | _ => false) = true := h
  split at h'
  · rename_i x px y py k1 pt A B k2 p2 spos
    simp only [Bool.and_eq_true, Bool.not_eq_true', decide_eq_true_eq] at h'
    obtain ⟨⟨⟨h1, h2⟩, ⟨h3, h4⟩, h5, h6⟩, h7, h8, h9, h10⟩ := h'
    have hnd : X.N.Nodup := by rw [c.hN]; exact c.nd
    have loc : ∀ {z : Str}, locB kc.sc z = true → X.env.scope.names.lookup z = some .local := fun {z} q => by
      rw [c.hsc]
      unfold locB at q
      cases e : kc.sc.names.lookup z with
      | none => rw [e] at q; cases q
      | some u => rw [e] at q; cases u <;> first | rfl | cases q
    have hij : i ≠ j := fun z => h5 (by
      have := h1.symm.trans ((congrArg (kc.N[·]?) z).trans h2)
      exact Option.some.inj this)
    have gA := ck_good h9
    have gB := ck_good h10
    intro pv σa σ H G F D st pp
    refine ofPS (ps_par c.calm hnd (by rw [c.hN]; exact h1) (by rw [c.hN]; exact h2) hij (loc h3) (loc h4) (pa_cons peW (pa_cons peW pa_nil (good_star gB)) (good_star gA)) (sw_par c.fun' (loc h3) (loc h4) h5 h6 gA gB (by simpa using h7) (by simpa using h8)))
      ((sound a).v c.toCok h9 pv σa σ H G F _ st (Post.thenS pp fun q H1 G1 F1 _ _ z st1 v rv => (sound b).v c.toCok h10 pv _ σ H1 G1 F1 _ st1 (Post.thenS z fun q2 H2 G2 F2 _ s12 z2 st2 u ru => ?_)))
    refine ⟨v, u, rfl, ?_⟩
    obtain ⟨s3, t3⟩ := st2.putD (i := i) (rv.mono s12.gle)
    obtain ⟨s4, t4⟩ := s3.putD (i := j) ru
    exact z2 _ _ _ (t3.trans t4) _ s4
  · cases h'
theorem snd_own (i : Nat) (e : Ex) : SndS w (.own i e) := fun {kc k X W S} c h => by
  have h' : (match (generalizing := false) S with
    | .Assign [.Name x _] E _ => kc.sto i x && (ck e).e kc E
    | _ => false) = true := h
  split at h'
  · rename_i y py E spos
    simp only [Bool.and_eq_true] at h'
    obtain ⟨te, a⟩ := asg_of (spos := spos) (py := py) c h'.2 h'.1
    intro pv σa σ H G F D st pp
    dsimp only [run] at pp
    split at pp
    · rename_i hc
      refine ofPS a.ps (a.nw hc pv σa σ H G F _ st (PX pp.bind) fun σb Da acc accV H' G' F' eq en => ?_)
      rw [eq] at pp
      obtain ⟨s1, t1⟩ := en.front.uncons i (fun m z => nomatch z)
      exact pp _ _ _ (en.ow.trans t1) _ s1
    · exact pp.elim
  · cases h'
theorem snd_mv (i j : Nat) : SndS w (.mv i j) := fun {kc k X W S} c h => by
  have h' : (match (generalizing := false) S with
    | .Assign [.Name x _] (.Name y _) _ => kc.sto i x && kc.var j y
    | _ => false) = true := h
  split at h'
  · rename_i x px y py spos
    simp only [Bool.and_eq_true] at h'
    have hnd : X.N.Nodup := by rw [c.hN]; exact c.nd
    obtain ⟨n1, n2, n3⟩ := sto_of c.toCok h'.1
    intro pv σa σ H G F D st pp
    dsimp only [run] at pp
    split at pp
    · rename_i m em
      split at pp
      · exact pp.elim
      · rename_i hij
        obtain ⟨v, ev, rm, _⟩ := st.slot j _ em
        refine ofPS (ps_set hnd n1 n2 (var_of c.toCok h'.2) rfl n3) ⟨v, ev, ?_⟩
        have s1 := st.wipe1 j
        have s2 := s1.cons (s := .m false m) (v := v) (f := F j) ⟨v, rfl, rm, fun z => nomatch z⟩ (fun a ma i' => by
          by_cases z : i' = j
          · rw [if_pos z]; simp
          · rw [if_neg z]; exact st.disj j i' (fun q => z q.symm) a ma) (st.free j) (st.there j)
        obtain ⟨s3, t3⟩ := s2.uncons i (fun m z => nomatch z)
        refine pp _ _ _ (Step.same fun a x m => ?_) _ s3
        by_cases z : a = i
        · rw [if_pos z] at m; exact ⟨j, m⟩
        · rw [if_neg z] at m
          have m' : x ∈ (if a = j then [] else F a) := m
          by_cases z' : a = j
          · rw [if_pos z'] at m'; cases m'
          · rw [if_neg z'] at m'; exact ⟨a, m'⟩
    · exact pp.elim
  · cases h'
/-! ### op= -/
def anyIp (X : Cx) (p : Operator) : TIp := fun x y H Q => ∃ r, PIp X p r ∧ r x y H Q
theorem anyIp_ok {p : Operator} : PIp X p (anyIp X p) := fun pins s σ H x y v u Q I r1 r2 ⟨r, ro, h⟩ => ro pins s σ H x y v u Q I r1 r2 h
theorem ip_str : PIp X .Add (fun x y H Q => ∃ a b, x = .str a ∧ y = .str b ∧ a.length + b.length ≤ sizeLine ∧ Q (.str (a ++ b)) H) := by
  intro pins s σ H x y v u Q I r1 r2 h
  obtain ⟨a, b, rfl, rfl, hz, q⟩ := h
  obtain ⟨t, rfl⟩ := r1
  obtain ⟨t', rfl⟩ := r2
  exact PyProof.Rows.iadd_str (fun t'' tk => ⟨.str _, H, I.tok _, ⟨_, rfl⟩, q⟩) hz
theorem ip_of {p : Operator} {r : R2} (h : OpR X (inplaceOp p) r) : PIp X p r := fun pins s σ H x y v u Q I r1 r2 q => h pins s σ H x y v u Q I r1 r2 q
theorem ipMulW : OpR X (inplaceOp .Mult) (rI CMulW fun i j => .int (i * j)) := opI fun _ _ _ _ _ _ _ big q => imul_int q (CMulW.ok big)
theorem ip_ok {o : BOp} {x y z : PyData} (h : binIp o x y = some z) : isFlat z = true ∧ ∀ {K G v u H} {Q : VK}, Rp K G v x → Rp K G u y → (∀ v', (∀ G', Rp K G' v' z) → Q v' H) → anyIp X (opB o) v u H Q := by
  unfold binIp at h
  split at h
  · cases h
    exact ⟨rfl, fun rv ru q => ⟨_, ip_add, _, _, rv.int_inv, ru.int_inv, q _ fun _ => .int _⟩⟩
  · split at h
    · rename_i hl
      cases h
      exact ⟨rfl, fun rv ru q => ⟨_, ip_str, _, _, rv.str_inv, ru.str_inv, by rw [← line_eq]; exact hl, q _ fun _ => .str _⟩⟩
    · cases h
  · cases h
    exact ⟨rfl, fun rv ru q => ⟨_, ip_sub, _, _, rv.int_inv, ru.int_inv, q _ fun _ => .int _⟩⟩
  · split at h
    · rename_i c
      cases h
      rcases mulOk_of c with c | c
      · exact ⟨rfl, fun rv ru q => ⟨_, ip_of iop_mul, rule1 rv.int_inv ru.int_inv c (q _ fun _ => .int _)⟩⟩
      · exact ⟨rfl, fun rv ru q => ⟨_, ip_of ipMulW, rule1 rv.int_inv ru.int_inv c (q _ fun _ => .int _)⟩⟩
    · cases h
  · cases h
theorem snd_aug (i : Nat) (o : BOp) (e : Ex) : SndS w (.aug i o e) := fun {kc k X W S} c h => by
  have h' : (match (generalizing := false) S with
    | .AugAssign (.Name x _) p E _ => kc.sto i x && (opBB o p && (ck e).e kc E)
    | _ => false) = true := h
  split at h'
  · rename_i x px p E spos
    simp only [Bool.and_eq_true] at h'
    obtain ⟨h1, h2, h3⟩ := h'
    have e0 := opBB_eq h2
    subst e0
    have hnd : X.N.Nodup := by rw [c.hN]; exact c.nd
    obtain ⟨n1, n2, n3⟩ := sto_of c.toCok h1
    intro pv σa σ H G F D st pp
    dsimp only [run] at pp
    split at pp
    · rename_i x0 em
      obtain ⟨v, ev, rv⟩ := st.slot i _ em
      refine ofPS (ps_aug hnd n1 n2 peW anyIp_ok n3) ⟨v, ev, (sound e).v c.toCok h3 pv σa σ H G F _ st (Post.thenS pp fun q H1 G1 F1 _ s01 z st1 u ru => ?_)⟩
      obtain ⟨d, e1, z⟩ := z.ofO
      obtain ⟨_, f⟩ := ip_ok (X := X) e1
      exact f (rv.mono s01.gle) ru fun v' rv' => put_ok z st1 (rv' _)
    · exact pp.elim
  · cases h'
end
end N
/-! N15: owned things written. -/
namespace N
open PySem PySem.Spec PyProof.Rows L2
section
variable {w : Wd} {kc : Kc} {k : Nat} {X : Cx} {W : WX} {pv : V} {σa : En} {σ : L2.St} {H G H1 G1 : Hp} {F F1 : Fp} {E A B I T : Expr} {S : Stmt} {Ss : List Stmt}
theorem ownL_of {o : Option Slot} (h : ownL o = true) : ∃ q xs, o = some (.m q (.l xs)) := by
  unfold ownL at h
  split at h
  · exact ⟨_, _, rfl⟩
  · cases h
theorem ownA_of {o : Option Slot} (h : ownA o = true) : ∃ q m, o = some (.m q m) := by
  unfold ownA at h
  split at h
  · exact ⟨_, _, rfl⟩
  · cases h
theorem upd_keep {a : Addr} {o : HO} {f : List Addr} (m : a ∈ f) : ∀ b, b ∉ f → upd H a o b = H b := fun b n => upd_ne fun z => n (by rw [z]; exact m)
theorem RMs.off {K : PySem.W.Frag} {vs : List V} {xs : List Mu} {f : List Addr} {a : Addr} {o : HO} (r : RMs K H G vs xs f) (n : a ∉ f) : RMs K (upd H a o) G vs xs f := r.frame (.refl G) fun b m => upd_ne fun z => n (by rw [← z]; exact m)
theorem RMk.off {K : PySem.W.Frag} {vs : List (Key × V)} {xs : List (D × Mu)} {f : List Addr} {a : Addr} {o : HO} (r : RMk K H G vs xs f) (n : a ∉ f) : RMk K (upd H a o) G vs xs f := r.frame (.refl G) fun b m => upd_ne fun z => n (by rw [← z]; exact m)
theorem tbM_list : PlainAttrs "list" ∧ PySem.Slot "list" (Str.ofString "append") "list.append" ∧ typeOf (.builtin "list.append") = pure (.type "method_descriptor") := ⟨PySem.F.plainAttrs_list, PySem.F.slot_list_append, PySem.F.type_list_append⟩
theorem snd_app (j : Nat) (e : Ex) : SndS w (.app j e) := fun {kc k X W S} c h => by
  have h' : (match (generalizing := false) S with
    | .Expr (.Call (.Attribute (.Name x _) m apos) [E] [] pos) _ => (decide (m = "append") && (apos.endLine == pos.line)) && (kc.var j x && (ck e).e kc E)
    | _ => false) = true := h
  split at h'
  · rename_i x px m apos E pos spos
    simp only [Bool.and_eq_true, decide_eq_true_eq] at h'
    obtain ⟨⟨h1, h2⟩, h3, h4⟩ := h'
    subst h1
    have g := ck_good h4
    obtain ⟨t1, t2, t3⟩ := tbM_list
    intro pv σa σ H G F D st pp
    dsimp only [run] at pp
    split at pp
    · rename_i ho
      obtain ⟨q0, xs0, em0⟩ := ownL_of ho
      obtain ⟨v, ev, rm0, _⟩ := st.slot j _ em0
      have hv0 : ∃ a vs, v = .ref a ∧ H a = some (.lst vs) := by
        generalize F j = ff at rm0
        cases rm0 with
        | l ha _ _ => exact ⟨_, _, rfl, ha⟩
      obtain ⟨a, vs0, rfl, ha0⟩ := hv0
      refine ofPS (ps_expr (pe_bm t1 t2 t3 mt_append (var_of c.toCok h3) (pa_cons peW pa_nil (good_star g)) rfl (by rw [good_star g]; rfl) h2 (good_star g) rfl) rfl) ?_
      refine ⟨_, ev, by rw [c.hK]; exact .inl ⟨rfl, vs0, .inl (.inl ha0)⟩, (sound e).v c.toCok h4 pv σa σ H G F _ st (Post.thenS pp fun q H1 G1 F1 _ s01 z st1 u ru => ?_)⟩
      split at z
      · rename_i qb xs em
        split at z
        · rename_i hl
          obtain ⟨v1, ev1, rm, hp⟩ := st1.slot j _ em
          rw [ev] at ev1
          cases ev1
          cases hf : F1 j with
          | nil => rw [hf] at rm; cases rm
          | cons a' ff =>
            rw [hf] at rm
            cases rm with
            | l ha rs na =>
              rename_i vs
              refine ⟨a, _, u, rfl, rfl, ha, by rw [rs.length, ← line_eq]; exact hl, ?_⟩
              have rs' : RMs w.K (upd H1 a (.lst (vs ++ [u]))) G1 (vs ++ [u]) (xs ++ [.d q.1]) (ff ++ []) := (rs.off na).append (RMs.cons (f := []) (g := []) (.d ru) .nil (fun _ m => nomatch m)) fun _ _ m => nomatch m
              rw [List.append_nil] at rs'
              obtain ⟨s3, t3⟩ := st1.write em ev hp (upd_keep (by rw [hf]; exact List.mem_cons_self ..)) (.l upd_same rs' na) (fun b m => by rw [hf]; exact m)
              exact z _ _ _ t3 _ s3
        · exact z.elim
      · exact z.elim
    · exact pp.elim
  · cases h'
/-! ### o[i] = -/
def anySet (X : Cx) : TSet := fun o i v H Q => ∃ r, PSet X r ∧ r o i v H Q
theorem anySet_ok : PSet X (anySet X) := fun pins s σ H o i v ov iv u Q I r1 r2 r3 ⟨r, ro, h⟩ => ro pins s σ H o i v ov iv u Q I r1 r2 r3 h
theorem RMk.any {K : PySem.W.Frag} : ∀ {vs : List (Key × V)} {xs : List (D × Mu)} {f : List Addr} {k : Key}, RMk K H G vs xs f → (vs.any fun p => decide (p.1 = k)) = hasK (keyD k) xs
  | _, _, _, _, .nil => rfl
  | _, _, _, k, .cons (k := kk) _ t _ => by
    have h := RMk.any (k := k) t
    show (decide (kk = k) || _) = (eqKey (keyD kk) (keyD k) || _)
    rw [eqKey_keyD]
    exact congrArg _ h
theorem RMk.rep {K : PySem.W.Frag} {k : Key} {v : V} {x : PyData} (r : Rp K G v x) : ∀ {vs : List (Key × V)} {xs : List (D × Mu)} {f : List Addr}, RMk K H G vs xs f → ∃ g, RMk K H G (vs.map fun p => if p.1 = k then (p.1, v) else p) (repK (keyD k) (.d x) xs) g ∧ ∀ a ∈ g, a ∈ f
  | _, _, _, .nil => ⟨[], .nil, fun _ m => m⟩
  | _, _, _, .cons (k := kk) (v := v0) (x := x0) (f := f) (g := g0) r0 t n => by
    obtain ⟨g, h1, h2⟩ := RMk.rep r t
    by_cases e : kk = k
    · refine ⟨[] ++ g, ?_, fun a m => List.mem_append_right _ (h2 a m)⟩
      show RMk K H G ((if kk = k then (kk, v) else _) :: _) ((if eqKey (keyD kk) (keyD k) = true then (keyD kk, .d x) else _) :: _) _
      rw [if_pos e, eqKey_keyD, if_pos (decide_eq_true e)]
      exact .cons (.d r) h1 fun _ m => nomatch m
    · refine ⟨f ++ g, ?_, fun a m => ?_⟩
      · show RMk K H G ((if kk = k then (kk, v) else (kk, v0)) :: _) ((if eqKey (keyD kk) (keyD k) = true then (keyD kk, .d x) else (keyD kk, x0)) :: _) _
        rw [if_neg e, eqKey_keyD, if_neg (by simpa using e)]
        exact .cons r0 h1 fun a m q => n a m (h2 a q)
      · rcases List.mem_append.mp m with m | m
        · exact List.mem_append_left _ m
        · exact List.mem_append_right _ (h2 a m)
theorem RMk.snoc {K : PySem.W.Frag} {k : Key} {v : V} {x : PyData} (r : Rp K G v x) : ∀ {vs : List (Key × V)} {xs : List (D × Mu)} {f : List Addr}, RMk K H G vs xs f → RMk K H G (vs ++ [(k, v)]) (xs ++ [(keyD k, .d x)]) f
  | _, _, _, .nil => RMk.cons (f := []) (g := []) (.d r) .nil fun _ m => nomatch m
  | _, _, _, .cons r0 t n => .cons r0 (RMk.snoc r t) n
theorem RMk.put {K : PySem.W.Frag} {k : Key} {v : V} {x : PyData} (r : Rp K G v x) {vs : List (Key × V)} {xs : List (D × Mu)} {f : List Addr} (h : RMk K H G vs xs f) : ∃ g, RMk K H G (putK vs k v) (putS (keyD k) (.d x) xs) g ∧ ∀ a ∈ g, a ∈ f := by
  unfold putK putS
  rw [h.any]
  split
  · exact RMk.rep r h
  · exact ⟨f, h.snoc r, fun _ m => m⟩
theorem RMk.length {K : PySem.W.Frag} : ∀ {vs : List (Key × V)} {xs : List (D × Mu)} {f : List Addr}, RMk K H G vs xs f → vs.length = xs.length
  | _, _, _, .nil => rfl
  | _, _, _, .cons _ t _ => by simp [RMk.length t]
theorem RMs.setD {K : PySem.W.Frag} {vs : List V} {xs : List Mu} {f : List Addr} (i : Nat) {v : V} {x : PyData} (h : RMs K H G vs xs f) (r : Rp K G v x) : ∃ g, RMs K H G (vs.set i v) (xs.set i (.d x)) g ∧ ∀ a ∈ g, a ∈ f := h.set i r
/-- a store into an owned thing -/
theorem set_ok (c : Cok w kc k X W) {j : Nat} {q : Bool} {m m' : Mu} {y x : PyData} {iv xv : V} (st : StOk w pv σa σ H G F) (em : σa[j]? = some (.m q m)) {v : V} (ev : σ[j]? = some (some v)) (e : muSet m y x = some m') (ry : Rp w.K G iv y) (rx : Rp w.K G xv x) {Q : Hp → Prop}
    (fin : ∀ H' F', StOk w pv (σa.set j (.m q m')) σ H' G F' → Step w H G F H' G F' → Q H') : anySet X v iv xv H Q := by
  obtain ⟨v1, ev1, rm, hp⟩ := st.slot j _ em
  rw [ev] at ev1
  cases ev1
  cases hf : F j with
  | nil =>
    rw [hf] at rm
    cases rm with
    | d _ => cases e
  | cons a ff =>
    rw [hf] at rm
    have keepA : ∀ {o : HO}, ∀ b, b ∉ F j → upd H a o b = H b := fun {o} => upd_keep (by rw [hf]; exact List.mem_cons_self ..)
    cases rm with
    | l ha rs na =>
      rename_i vs xs
      cases y <;> try (cases e; done)
      rename_i i
      have e' : (L2.ixN xs.length i).map (fun j => Mu.l (xs.set j (.d x))) = some m' := e
      cases ej : L2.ixN xs.length i with
      | none => rw [ej] at e'; cases e'
      | some jj =>
        rw [ej] at e'
        cases e'
        obtain ⟨g, h1, h2⟩ := rs.setD jj rx
        refine ⟨_, set_list, a, vs, i, jj, rfl, ry.int_inv, ha, by rw [rs.length]; exact ej, ?_⟩
        obtain ⟨s3, t3⟩ := st.write em ev hp keepA (.l upd_same (h1.off fun z => na (h2 a z)) fun z => na (h2 a z)) (fun b mb => by
          rw [hf]
          rcases List.mem_cons.mp mb with z | z
          · rw [z]; exact List.mem_cons_self ..
          · exact List.mem_cons_of_mem _ (h2 b z))
        exact fin _ _ s3 t3
    | k ha rs na =>
      rename_i vs kvs
      have e' : (if (isKey y && decide (kvs.length < LINE)) = true then some (Mu.k false (putS y (.d x) kvs)) else none) = some m' := e
      split at e'
      · rename_i hk
        rw [Bool.and_eq_true, decide_eq_true_eq] at hk
        cases e'
        obtain ⟨kk, ek⟩ := isKey_keyD hk.1
        subst ek
        obtain ⟨g, h1, h2⟩ := rs.put (k := kk) rx
        have hu : X.A.units + 1 < cLine := by have := c.room.un; omega
        rw [ry.key_inv]
        refine ⟨_, set_dict hu, a, _, rfl, DPut.k ha (by rw [rs.length, ← line_eq]; exact hk.2), ?_⟩
        obtain ⟨s3, t3⟩ := st.write em ev hp keepA (.k upd_same (h1.off fun z => na (h2 a z)) fun z => na (h2 a z)) (fun b mb => by
          rw [hf]
          rcases List.mem_cons.mp mb with z | z
          · rw [z]; exact List.mem_cons_self ..
          · exact List.mem_cons_of_mem _ (h2 b z))
        exact fin _ _ s3 t3
      · cases e'
theorem asg_sub (g : goodE I = true) {o : Expr} {env : PySem.Env} {pos : Pos} : ∀ v, assign (.Subscript o I pos) env v = (do
      let ov ← holding [v] (eval o env)
      let iv ← holding [v, ov] (eval I env)
      standAt pos
      holding [v, ov, iv] (setItem ov iv v)
      release [v, ov, iv] []) := by
  intro v
  cases I <;> first | rfl | (exact Bool.noConfusion g)
theorem aug_sub (g : goodE I = true) : ∀ ov iv new, augStore I ov iv new = (do holding [new, ov, iv] (setItem ov iv new); release [new, ov, iv] []; pure .next) := by
  intro ov iv new
  cases I <;> first | rfl | (exact Bool.noConfusion g)
theorem snd_setP (j : Nat) (i e : Ex) : SndS w (.setP j i e) := fun {kc k X W S} c h => by
  have h' : (match (generalizing := false) S with
    | .Assign [.Subscript (.Name x _) I _] E _ => kc.var j x && ((ck i).e kc I && (ck e).e kc E)
    | _ => false) = true := h
  split at h'
  · rename_i x px I ipos E spos
    simp only [Bool.and_eq_true] at h'
    obtain ⟨h1, h2, h3⟩ := h'
    have gE := ck_good h3
    intro pv σa σ H G F D st pp
    refine ofPS (ps_asg peW (pg_sub (var_of c.toCok h1) peW anySet_ok (asg_sub (ck_good h2))) (swSole gE rfl) rfl rfl)
      ((sound e).v c.toCok h3 pv σa σ H G F _ st (Post.thenS pp fun q H1 G1 F1 _ s01 z st1 u ru => ?_))
    split at z
    · rename_i ho
      obtain ⟨q0, m0, em0⟩ := ownA_of ho
      obtain ⟨v, ev, _, _⟩ := st1.slot j _ em0
      refine ⟨v, ev, (sound i).v c.toCok h2 pv _ σ H1 G1 F1 _ st1 (Post.thenS z fun q2 H2 G2 F2 _ s12 z2 st2 y ry => ?_)⟩
      split at z2
      · rename_i qb m em
        obtain ⟨m', e1, z3⟩ := z2.ofO
        exact set_ok c.toCok st2 em ev e1 ry (ru.mono s12.gle) fun H' F' s3 t3 => z3 _ _ _ t3 _ s3
      · exact z2.elim
    · exact z.elim
  · cases h'
/-! ### o[i] op= -/
def anyGet (X : Cx) : V → V → Hp → VK → Prop := fun o i H Q => ∃ r, PGet X r ∧ r o i H Q
theorem anyGet_ok : PGet X (anyGet X) := fun pins s σ H o i ov iv Q I r1 r2 ⟨r, ro, h⟩ => ro pins s σ H o i ov iv Q I r1 r2 h
theorem get_list : PGet X (fun x y H Q => ∃ p xs i v, x = .ref p ∧ y = .int i ∧ SqL X.K H p xs ∧ atI xs i = some v ∧ Q v H) := by
  intro pins s σ H x y v u Q I rx ry h
  obtain ⟨p, xs, i, z, rfl, rfl, hq, he, q⟩ := h
  cases rx
  obtain ⟨t, rfl⟩ := ry
  obtain ⟨its, r, pl, hz⟩ := I.list hq
  obtain ⟨j, h1, h2, h3, h4, h5⟩ := atI_get he
  obtain ⟨w, ew, rw'⟩ := r.get h2
  have hl := r.length
  have hn := line63
  by_cases h0 : 0 ≤ i
  · have hj : i.toNat = j := by
      rw [seqIndex_of h0 h5] at h1
      exact Option.some.inj h1
    exact wpAny_getItem_list pl.isList h0 (by omega) (x := w) (by rw [hj]; simpa using ew) ⟨z, H, I, rw', q⟩
  · have hj : (i + (its.toArray.size : Int)).toNat = j := by
      rw [seqIndex_neg (by omega) h4] at h1
      rw [List.size_toArray, ← hl]
      exact Option.some.inj h1
    exact wpAny_getItem_list_neg pl.isList (by omega) (by rw [List.size_toArray] <;> omega) (by omega) (x := w) (by rw [hj]; simpa using ew) ⟨z, H, I, rw', q⟩
theorem get_dict (hu : X.A.units + 1 < cLine) : PGet X (fun x y H Q => ∃ a v, x = .ref a ∧ DGet H a y (some v) ∧ Q v H) := by
  intro pins s σ H x y v u Q I rx ry h
  obtain ⟨a, z, rfl, g, q⟩ := h
  cases rx
  exact d_getItem hu I g ry fun w' s' I' rw' => ⟨z, H, I', rw', q⟩
/-- a read of an owned thing -/
theorem get_ok (c : Cok w kc k X W) {j : Nat} {q : Bool} {m : Mu} {y x : PyData} {iv : V} (st : StOk w pv σa σ H G F) (em : σa[j]? = some (.m q m)) {v : V} (ev : σ[j]? = some (some v)) (e : muIx m y = some x) (ry : Rp w.K G iv y) {Q : VK}
    (fin : ∀ xv, Rp w.K G xv x → Q xv H) : anyGet X v iv H Q := by
  obtain ⟨v1, ev1, rm, hp⟩ := st.slot j _ em
  rw [ev] at ev1
  cases ev1
  generalize F j = ff at rm
  cases rm with
  | d _ => cases e
  | l ha rs na =>
    rename_i a vs xs f
    cases y <;> try (cases e; done)
    rename_i i
    have e' : (match atI xs i with | some (.d x) => some x | _ => none) = some x := e
    split at e'
    · rename_i x0 ex
      cases e'
      unfold atI at ex
      cases ej : ixN xs.length i with
      | none => rw [ej] at ex; cases ex
      | some jj =>
        rw [ej] at ex
        obtain ⟨u, hv, rv⟩ := rs.get (show xs[jj]? = some (.d x) from ex)
        refine ⟨_, get_list, a, vs, i, u, rfl, ry.int_inv, .inl (.inl ha), ?_, fin u rv⟩
        unfold atI
        rw [rs.length, ej]
        exact hv
    · cases e'
  | k ha rs na =>
    rename_i a vs kvs f
    have e0 : (if isKey y then (match getK y kvs with | some (.d x) => some x | _ => none) else none) = some x := e
    split at e0
    · rename_i hk1
      obtain ⟨kk, ek⟩ := isKey_keyD hk1
      subst ek
      split at e0
      · rename_i x0 ex
        cases e0
        obtain ⟨u, hv, rv⟩ := rs.key ex
        have hu : X.A.units + 1 < cLine := by have := c.room.un; omega
        rw [ry.key_inv]
        have dg := DGet.k (k := kk) ha
        rw [hv] at dg
        exact ⟨_, get_dict hu, a, u, rfl, dg, fin u rv⟩
      · cases e0
    · cases e0
theorem snd_augP (j : Nat) (i : Ex) (o : BOp) (e : Ex) : SndS w (.augP j i o e) := fun {kc k X W S} c h => by
  have h' : (match (generalizing := false) S with
    | .AugAssign (.Subscript (.Name x _) I _) p E _ => kc.var j x && (opBB o p && ((ck i).e kc I && (ck e).e kc E))
    | _ => false) = true := h
  split at h'
  · rename_i x px I ipos p E spos
    simp only [Bool.and_eq_true] at h'
    obtain ⟨h1, h0, h2, h3⟩ := h'
    have e0 := opBB_eq h0
    subst e0
    intro pv σa σ H G F D st pp
    dsimp only [run] at pp
    split at pp
    · rename_i ho
      obtain ⟨q0, m0, em0⟩ := ownA_of ho
      obtain ⟨v, ev, _, _⟩ := st.slot j _ em0
      refine ofPS (ps_augS (var_of c.toCok h1) peW anyGet_ok peW anyIp_ok anySet_ok (aug_sub (ck_good h2))) ⟨v, ev, (sound i).v c.toCok h2 pv σa σ H G F _ st (Post.thenS pp fun q H1 G1 F1 _ s01 z st1 y ry => ?_)⟩
      split at z
      · rename_i qb m em
        obtain ⟨x0, ex0, z⟩ := z.ofO
        refine get_ok c.toCok st1 em ev ex0 ry fun xv rxv => (sound e).v c.toCok h3 pv _ σ H1 G1 F1 _ st1 (Post.thenS z fun q2 H2 G2 F2 _ s12 z2 st2 u ru => ?_)
        obtain ⟨d, e1, z3⟩ := z2.ofO
        obtain ⟨_, f⟩ := ip_ok (X := X) e1
        refine f (rxv.mono s12.gle) ru fun v' rv' => ?_
        split at z3
        · rename_i qb2 m2 em2
          obtain ⟨m', e2, z4⟩ := z3.ofO
          exact set_ok c.toCok st2 em2 ev e2 (ry.mono s12.gle) (rv' _) fun H' F' s3 t3 => z4 _ _ _ t3 _ s3
        · exact z3.elim
      · exact z.elim
    · exact pp.elim
  · cases h'
end
end N
/-! NB15: {} of one's own, += of a new list, remove. -/
namespace N
open PySem PySem.Spec PyProof.Rows L2
section
variable {w : Wd} {kc : Kc} {k : Nat} {X : Cx} {W : WX} {pv : V} {σa : En} {σ : L2.St} {H G H1 G1 : Hp} {F F1 : Fp} {E A B I T : Expr} {S : Stmt} {Ss : List Stmt}
theorem snd_ownE (i : Nat) : SndS w (.ownE i) := fun {kc k X W S} c h => by
  have h' : (match (generalizing := false) S with
    | .Assign [.Name x _] (.Dict [] [] _) _ => kc.sto i x
    | _ => false) = true := h
  split at h'
  · rename_i x px dpos spos
    have hnd : X.N.Nodup := by rw [c.hN]; exact c.nd
    obtain ⟨n1, n2, n3⟩ := sto_of c.toCok h'
    intro pv σa σ H G F D st pp
    dsimp only [run] at pp
    refine ofPS (ps_set hnd n1 n2 pe_dnewK rfl n3) fun p hp => ?_
    obtain ⟨nF, gD, nT⟩ := st.newNe hp
    have st0 : StOk w pv σa σ (upd H p (.dK [])) G F := st.atD gD nF nT
    have s0 : Step w H G F (upd H p (.dK [])) G F := (Step.refl w H G F).atD hp nT
    have st1 : StOk w pv (.m false (.k false []) :: σa) (some (.ref p) :: σ) (upd H p (.dK [])) G (consF [p] F) := by
      refine st0.cons ⟨_, rfl, .k upd_same .nil (fun z => nomatch z), fun z => nomatch z⟩ (fun a ma i => ?_) (fun a ma => ?_) (fun a ma => ?_)
      all_goals
        have z : a = p := by simpa using ma
        rw [z]
      · exact nF i
      · exact gD
      · exact ⟨_, upd_same, trivial⟩
    have s1 : Step w H G F (upd H p (.dK [])) G (consF [p] F) := ⟨s0.gle, s0.keep, fun i a ma => by
      cases i with
      | zero =>
        have z : a = p := by simpa [consF] using ma
        rw [z]; exact .inr hp
      | succ i => exact s0.fresh i a ma, s0.tabk⟩
    obtain ⟨s2, t2⟩ := st1.uncons i (fun m z => nomatch z)
    exact pp _ _ _ (s1.trans t2) _ s2
  · cases h'
theorem new_of (c : CokS w kc k X W) {e : Ex} (h : (ck e).e kc E = true) (hc : isC e = true) : ∃ te, PE X E te ∧ SNew w W te (sm w.P.C (callF w.P k) e).v := by
  cases e <;> try (cases hc; done)
  case lst es => exact ⟨_, peW, snew_lst c.toCok h⟩
  case bin o a b =>
    cases o <;> try (cases hc; done)
    cases a <;> try (cases hc; done)
    exact ⟨_, peW, snew_rep c.toCok h⟩
  case blt f es =>
    cases f <;> try (cases hc; done)
    exact ⟨_, peW, snew_list c.toCok h⟩
  case lc elt tg it cs own => exact new_lc c.toCok h
  case lc2 elt tg it tg1 it1 cs own own1 => exact new_lc2 c.toCok h
theorem set_self {α : Type} {l : List α} {i : Nat} {a : α} (h : l[i]? = some a) : l.set i a = l := by
  obtain ⟨h1, h2⟩ := List.getElem?_eq_some_iff.mp h
  rw [← h2, List.set_getElem_self]
theorem EndI.own0 {H0 G0 : Hp} {F0 : Fp} {D : Addr} {acc : List PyData} {accV : List V} (e : EndI w pv H0 G0 F0 σa σ D acc accV H G F) : Step w H0 G0 F0 H G F := ⟨e.ow.gle, e.ow.keep, fun i a m => e.ow.fresh (i + 1) a m, e.ow.tabk⟩
theorem snd_ext (j : Nat) (e : Ex) : SndS w (.ext j e) := fun {kc k X W S} c h => by
  have h' : (match (generalizing := false) S with
    | .AugAssign (.Name x _) p E _ => (kc.sto j x && opBB .add p) && (ck e).e kc E
    | _ => false) = true := h
  split at h'
  · rename_i x px p E spos
    simp only [Bool.and_eq_true] at h'
    obtain ⟨⟨h1, h2⟩, h3⟩ := h'
    have e0 := opBB_eq h2
    subst e0
    have hnd : X.N.Nodup := by rw [c.hN]; exact c.nd
    obtain ⟨n1, n2, n3⟩ := sto_of c.toCok h1
    intro pv σa σ H G F D st pp
    dsimp only [run] at pp
    split at pp
    · rename_i ho
      rw [Bool.and_eq_true] at ho
      obtain ⟨q0, xs0, em0⟩ := ownL_of ho.1
      obtain ⟨v, ev, rm0, hp0⟩ := st.slot j _ em0
      obtain ⟨te, pe, nw⟩ := new_of c h3 ho.2
      refine ofPS (ps_aug hnd n1 n2 pe anyIp_ok n3) ⟨v, ev, nw pv σa σ H G F _ st (PX pp.bind) fun σb Da acc accV H' G' F' eq en => ?_⟩
      rw [eq, ok_bind] at pp
      dsimp only at pp
      split at pp
      · rename_i qb xs em
        split at pp
        · rename_i hl
          obtain ⟨v1, ev1, rm, hp⟩ := en.st.slot j _ em
          rw [ev] at ev1
          cases ev1
          cases hf : F' j with
          | nil => rw [hf] at rm; cases rm
          | cons a' ff =>
            rw [hf] at rm
            cases rm with
            | l ha rs na =>
              rename_i vs
              have lz : accV.length = acc.length := en.rp.length
              refine ⟨_, ip_of iop_ext, a', Da, vs, accV, rfl, rfl, ha, en.hD, by rw [rs.length, lz, ← line_eq]; exact hl, ?_⟩
              have rs' : RMs w.K (upd H' a' (.lst (vs ++ accV))) G' (vs ++ accV) (xs ++ acc.map .d) (ff ++ []) := (rs.off na).append (.ofAll en.rp) fun _ _ m => nomatch m
              rw [List.append_nil] at rs'
              obtain ⟨s3, t3⟩ := en.st.write em ev hp (upd_keep (by rw [hf]; exact List.mem_cons_self ..)) (.l upd_same rs' na) (fun b m => by rw [hf]; exact m)
              refine pp _ _ _ (en.own0.trans t3) _ ?_
              rw [set_self ev]
              exact s3
        · exact pp.elim
      · exact pp.elim
    · exact pp.elim
  · cases h'
/-! ### xs.remove(y) -/
theorem eraseIdx_map {α β : Type} (f : α → β) : ∀ (l : List α) (j : Nat), (l.map f).eraseIdx j = (l.eraseIdx j).map f
  | [], _ => by simp
  | _ :: _, 0 => rfl
  | a :: l, j + 1 => by
    show f a :: (l.map f).eraseIdx j = f a :: (l.eraseIdx j).map f
    rw [eraseIdx_map f l j]
def rRemD (K : PySem.W.Frag) : V → List V → Hp → VK → Prop := fun x xs H Q => ∃ (l : Addr) (vs : List V) (ds : List PyData) (y : V) (d : PyData) (j : Nat), x = .ref l ∧ xs = [y] ∧ H l = some (.lst vs) ∧ DpAll K H vs ds ∧ Dp K H y d ∧
  SeqAt.shaped d = true ∧ ds.all SeqAt.shaped = true ∧ SeqAt.dataPlace ds d = some j ∧ Q .non (upd H l (.lst (vs.eraseIdx j)))
theorem mt_remD (hu : X.A.units + 65 < cLine) : MtM X "list.remove" (rRemD X.K) := by
  intro pins s σ H x xs v us Q I rx rxs h
  obtain ⟨l, vs, ds, y, d, j, rfl, rfl, hH, hds, hd, sd, sds, hp, q⟩ := h
  cases rx
  obtain ⟨u, rfl, ru⟩ := rxs.one
  obtain ⟨z, its, n, r, hl, e⟩ := I.lstM hH
  obtain ⟨as, ra⟩ := Dp.readsAll I ds vs its hds r
  obtain ⟨bs, rb⟩ := Dp.reads I d y u hd ru
  obtain ⟨i1, i2⟩ := shp_all sds
  have hm : min (PyData.depthAll ds) d.depth ≤ 64 := Nat.le_trans (Nat.min_le_left _ _) i2
  refine SeqAt.remove_list_data (vs := its.toArray) ⟨_, e, rfl, n, rfl⟩ (by rw [List.toList_toArray]; exact ra) rb (PyData.plainAll_of_canLay0 _ i1) (PyData.plain_of_canLay0 _ (SeqAt.canLay_of_shaped sd)) (by omega) hp (by rw [List.size_toArray]; omega) ?_
  refine ⟨.non, _, I.lset (its' := its.eraseIdx j) (t' := s.toks) hH e ?_ (r.eraseIdx j) ?_, rfl, q⟩
  · show its.toArray.eraseIdxIfInBounds j = (its.eraseIdx j).toArray
    rw [List.eraseIdxIfInBounds_toArray]
  · have := List.length_eraseIdx_le vs j
    omega
theorem RpAll.erase {K : PySem.W.Frag} {G : Hp} : ∀ {vs : List V} {ds : List PyData} (j : Nat), RpAll K G vs ds → RpAll K G (vs.eraseIdx j) (ds.eraseIdx j)
  | _, _, _, .nil => .nil
  | _, _, 0, .cons _ b => b
  | _, _, j + 1, .cons a b => .cons a (RpAll.erase j b)
theorem tbM_rem : PlainAttrs "list" ∧ PySem.Slot "list" (Str.ofString "remove") "list.remove" ∧ typeOf (.builtin "list.remove") = pure (.type "method_descriptor") := ⟨PySem.F.plainAttrs_list, PySem.F.slot_list_remove, PySem.F.type_list_remove⟩
theorem snd_rem (j : Nat) (e : Ex) : SndS w (.rem j e) := fun {kc k X W S} c h => by
  have h' : (match (generalizing := false) S with
    | .Expr (.Call (.Attribute (.Name x _) m apos) [E] [] pos) _ => (decide (m = "remove") && (apos.endLine == pos.line)) && (kc.var j x && (ck e).e kc E)
    | _ => false) = true := h
  split at h'
  · rename_i x px m apos E pos spos
    simp only [Bool.and_eq_true, decide_eq_true_eq] at h'
    obtain ⟨⟨h1, h2⟩, h3, h4⟩ := h'
    subst h1
    have g := ck_good h4
    obtain ⟨t1, t2, t3⟩ := tbM_rem
    have hu : X.A.units + 65 < cLine := by have := c.room.un; omega
    intro pv σa σ H G F D st pp
    dsimp only [run] at pp
    split at pp
    · rename_i ho
      obtain ⟨q0, xs0, em0⟩ := ownL_of ho
      obtain ⟨v, ev, rm0, hp0⟩ := st.slot j _ em0
      have hv0 : ∃ a vs, v = .ref a ∧ H a = some (.lst vs) := by
        generalize F j = ff at rm0
        cases rm0 with
        | l ha _ _ => exact ⟨_, _, rfl, ha⟩
      obtain ⟨a, vs0, rfl, ha0⟩ := hv0
      refine ofPS (ps_expr (pe_bm t1 t2 t3 (mt_remD hu) (var_of c.toCok h3) (pa_cons peW pa_nil (good_star g)) rfl (by rw [good_star g]; rfl) h2 (good_star g) rfl) rfl) ?_
      refine ⟨_, ev, by rw [c.hK]; exact .inl ⟨rfl, vs0, .inl (.inl ha0)⟩, (sound e).v c.toCok h4 pv σa σ H G F _ st (Post.thenS pp fun q H1 G1 F1 _ s01 z st1 u ru => ?_)⟩
      split at z
      · rename_i qb xs em
        split at z
        · rename_i hsx
          obtain ⟨ys, er, z2⟩ := z.ofO
          unfold remD at er
          cases ed : datM xs with
          | none => rw [ed] at er; cases er
          | some ds =>
            rw [ed] at er
            have er2 : (if ds.all SeqAt.shaped = true then (ds.findIdx? fun y => PyData.eqv y q.1).map fun j => (ds.eraseIdx j).map Mu.d else none) = some ys := er
            split at er2
            · rename_i hsd
              cases ej : ds.findIdx? fun y => PyData.eqv y q.1 with
              | none => rw [ej] at er2; cases er2
              | some jj =>
                rw [ej] at er2
                cases er2
                have exs := datM_some ed
                subst exs
                obtain ⟨v1, ev1, rm, hp⟩ := st1.slot j _ em
                rw [ev] at ev1
                cases ev1
                cases hf : F1 j with
                | nil => rw [hf] at rm; cases rm
                | cons a' ff =>
                  rw [hf] at rm
                  cases rm with
                  | l ha rs na =>
                    rename_i vs
                    have ra := rs.toRp
                    refine ⟨_, vs, ds, u, q.1, jj, rfl, rfl, ha, ?_, ?_, hsx, hsd, ej, ?_⟩
                    · rw [c.hK]; exact (ra.mono st1.sub).dp (shp_all hsd).1
                    · rw [c.hK]; exact (ru.mono st1.sub).dp (shp_lay hsx)
                    have rs' : RMs w.K (upd H1 a (.lst (vs.eraseIdx jj))) G1 (vs.eraseIdx jj) ((ds.eraseIdx jj).map .d) [] := .ofAll (ra.erase jj)
                    obtain ⟨s3, t3⟩ := st1.write em ev hp (upd_keep (by rw [hf]; exact List.mem_cons_self ..)) (.l upd_same rs' (by simp)) (fun b m => by
                      rw [hf]
                      have : b = a := by simpa using m
                      rw [this]; exact List.mem_cons_self ..)
                    exact z2 _ _ _ t3 _ s3
            · cases er2
        · exact z.elim
      · exact z.elim
    · exact pp.elim
  · cases h'
theorem snd_parL (i j : Nat) (a x b : Ex) : SndS w (.parL i j a x b) := fun {kc k X W S} c h => by
  have h' : (match (generalizing := false) S with
    | .Assign [.Tuple [.Name z px, .Name y py] _ _] (.Tuple [A, .BinOp C p B bp] _ _) _ => ((decide (kc.N[i]? = some z) && decide (kc.N[j]? = some y)) && ((locB kc.sc z && locB kc.sc y) && (decide (z ≠ y) && (px.line == py.line)))) &&
        (!(foldedForSure 8 A && foldedForSure 8 (.BinOp C p B bp)) && (!(constantsAlone 8 A && constantsAlone 8 (.BinOp C p B bp)) && (opBB .mul p && ((ck a).e kc A && ((ck x).e kc C && (ck b).e kc B)))))
    | _ => false) = true := h
  split at h'
  · rename_i z px y py k1 pt A C p B bp k2 p2 spos
    simp only [Bool.and_eq_true, Bool.not_eq_true', decide_eq_true_eq] at h'
    obtain ⟨⟨⟨h1, h2⟩, ⟨h3, h4⟩, h5, h6⟩, h7, h8, h0, h9, h10, h11⟩ := h'
    have e0 := opBB_eq h0
    subst e0
    have e1 : opB .mul = .Mult := rfl
    rw [e1] at h7 h8
    have hnd : X.N.Nodup := by rw [c.hN]; exact c.nd
    have loc : ∀ {z : Str}, locB kc.sc z = true → X.env.scope.names.lookup z = some .local := fun {z} q => by
      rw [c.hsc]
      unfold locB at q
      cases e : kc.sc.names.lookup z with
      | none => rw [e] at q; cases q
      | some u => rw [e] at q; cases u <;> first | rfl | cases q
    have hij : i ≠ j := fun q => h5 (by
      have := h1.symm.trans ((congrArg (kc.N[·]?) q).trans h2)
      exact Option.some.inj this)
    have gA := ck_good h9
    intro pv σa σ H G F D st pp
    refine ofPS (ps_par c.calm hnd (by rw [c.hN]; exact h1) (by rw [c.hN]; exact h2) hij (loc h3) (loc h4) (pa_cons peW (pa_cons (pe_op opRep peW peW) pa_nil rfl) (good_star gA)) (sw_par c.fun' (loc h3) (loc h4) h5 h6 gA rfl (by simpa using h7) (by simpa using h8)))
      ((sound a).v c.toCok h9 pv σa σ H G F _ st (Post.thenS pp fun q H1 G1 F1 _ _ z st1 v rv => (sound x).v c.toCok h10 pv _ σ H1 G1 F1 _ st1 (Post.thenS z fun q2 H2 G2 F2 _ s12 z2 st2 u ru => (sound b).v c.toCok h11 pv _ σ H2 G2 F2 _ st2 (Post.thenS z2 fun q3 H3 G3 F3 _ s23 z3 st3 t rt => ?_))))
    split at z3
    · rename_i xs n e3 e2
      split at z3
      · rename_i hr
        rw [e3] at ru
        rw [e2] at rt
        obtain ⟨l, vs, rfl, sl, rl⟩ := (ru.mono s23.gle).lst_inv
        unfold repOk at hr
        simp only [Bool.and_eq_true, decide_eq_true_eq] at hr
        have hb := inB_of hr.1
        refine ⟨l, n, vs, rfl, rt.int_inv, (by rw [c.hK]; exact st3.sub.sqL sl), ⟨by omega, by omega⟩, by rw [rl.length]; have := hr.2; have hL : LINE = 16777216 := rfl; have hs := sizeLine_eq; omega, fun pa hpa => ?_⟩
        refine ⟨v, .ref pa, rfl, ?_⟩
        obtain ⟨s3, t3⟩ := st3.putD (i := i) ((rv.mono s12.gle).mono s23.gle)
        have en := EndI.new s3 t3 hpa (rl.rep n.toNat)
        obtain ⟨s4, t4⟩ := en.front.uncons j (fun m z => nomatch z)
        exact z3 _ _ _ (en.ow.trans t4) _ s4
      · exact z3.elim
    · exact z3.elim
  · cases h'
end
end N
/-! N16: dicts and lists made, answers, control. -/
namespace N
open PySem PySem.Spec PyProof.Rows L2
section
variable {w : Wd} {kc : Kc} {k : Nat} {X : Cx} {W : WX} {pv : V} {σa : En} {σ : L2.St} {H G H1 G1 : Hp} {F F1 : Fp} {E A B I T : Expr} {S : Stmt} {Ss : List Stmt}
/-! ### a dict with texts for keys -/
def trsOf (X : Cx) : List Str → List Expr → List (TE × TE)
  | k :: ks, E :: Es => (tC (.str k), WpE X E) :: trsOf X ks Es
  | _, _ => []
theorem strKs_of {pos : Pos} : ∀ {ks : List Str} {Ks : List (Option Expr)} {Es : List Expr}, strKs ks Ks = true → Es.length = ks.length → PPs X pos Ks Es (trsOf X ks Es) ∧ Ks.all (·.isSome) = true ∧ Ks.length = Es.length
  | [], [], [], _, _ => ⟨pps_nil, rfl, rfl⟩
  | [], [], _ :: _, _, l => by cases l
  | [], _ :: _, _, h, _ => Bool.noConfusion h
  | _ :: _, [], _, h, _ => Bool.noConfusion h
  | k :: ks, none :: _, _, h, _ => Bool.noConfusion h
  | _ :: _, some _ :: _, [], _, l => by cases l
  | k :: ks, some K :: Ks, E :: Es, h, l => by
    cases K <;> try (exact Bool.noConfusion h)
    rename_i cst j p
    cases cst <;> try (exact Bool.noConfusion h)
    rename_i x
    have h' : (decide (k = x) && strKs ks Ks) = true := h
    rw [Bool.and_eq_true, decide_eq_true_eq] at h'
    obtain ⟨rfl, h2⟩ := h'
    obtain ⟨i1, i2, i3⟩ := strKs_of (pos := pos) (Es := Es) h2 (by simpa using l)
    exact ⟨pps_cons pe_str peW i1, by simpa using i2, by simp [i3]⟩
theorem pairs_ok (c : Cok w kc k X W) {D : Addr} {o : HO} (t : ∀ p ∈ w.tabs, p.2 ≠ D) : ∀ {es : List Ex} {ks : List Str} {Es : List Expr} {pv : V} {σa : En} {σ : L2.St} {H G : Hp} {F : Fp} {Q : List (V × V) → Hp → Prop}, cks es kc Es = true → ks.length = es.length → StOk w pv σa σ H G F →
    H D = some o → G D = none → (∀ i, D ∉ F i) → Post w H G F (sms w.P.C (callF w.P k) es σa) (fun q H' G' F' => StOk w pv q.2 σ H' G' F' → H' D = some o → G' D = none → (∀ i, D ∉ F' i) → ∀ vs, RpAll w.K G' vs q.1 → Q ((ks.map V.str).zip vs) H') (KX w W σ) → tPairs (trsOf X ks Es) σ H Q
  | [], ks, Es, pv, σa, σ, H, G, F, Q, h, l, st, hD, gD, fD, p => by
    cases Es with
    | cons _ _ => exact Bool.noConfusion h
    | nil =>
      cases ks with
      | cons _ _ => cases l
      | nil => exact p.here st hD gD fD [] .nil
  | e :: es, ks, Es, pv, σa, σ, H, G, F, Q, h, l, st, hD, gD, fD, p => by
    cases Es with
    | nil => exact Bool.noConfusion h
    | cons E Es =>
      have h' : ((ck e).e kc E && cks es kc Es) = true := h
      rw [Bool.and_eq_true] at h'
      cases ks with
      | nil => cases l
      | cons k0 ks =>
        refine (sound e).v c h'.1 pv σa σ H G F _ st (Post.then p fun q H1 G1 F1 eq s01 z st1 v rv => ?_)
        obtain ⟨a1, a2, a3⟩ := s01.apart hD gD fD t
        refine pairs_ok c t h'.2 (by simpa using l) st1 a1 a2 a3 (Post.then z fun q2 H2 G2 F2 eq2 s12 z2 st2 b1 b2 b3 vs rs => ?_)
        exact z2.here st2 b1 b2 b3 (v :: vs) (.cons (rv.mono s12.gle) rs)
theorem zip_kv : ∀ (ks : List Str) (vs : List V), (ks.map V.str).zip vs = ((ks.map Sum.inr : List Key).zip vs).map fun kv => (kV kv.1, kv.2)
  | [], _ => rfl
  | _ :: _, [] => rfl
  | k :: ks, v :: vs => by
    exact congrArg (List.cons (V.str k, v)) (zip_kv ks vs)
theorem putK_new {κ : Type} [DecidableEq κ] {acc : List (κ × V)} {k : κ} {v : V} (n : k ∉ acc.map (·.1)) : putK acc k v = acc ++ [(k, v)] := by
  unfold putK
  rw [if_neg]
  intro h
  rw [List.any_eq_true] at h
  obtain ⟨p, hp, e⟩ := h
  exact n (List.mem_map.mpr ⟨p, hp, of_decide_eq_true e⟩)
theorem merge_new : ∀ {kvs acc : List (Key × V)}, ((acc ++ kvs).map (·.1)).Nodup → mergeK acc kvs = acc ++ kvs
  | [], acc, _ => by simp [mergeK]
  | p :: r, acc, h => by
    have n : p.1 ∉ acc.map (·.1) := by
      intro m
      rw [List.map_append, List.nodup_append] at h
      exact h.2.2 _ m _ (by simp) rfl
    show mergeK (putK acc p.1 p.2) r = _
    rw [putK_new n, merge_new (by simpa using h)]
    simp
theorem zip_keys : ∀ {ks : List Str} {vs : List V}, vs.length = ks.length → ((ks.map Sum.inr : List Key).zip vs).map (·.1) = ks.map Sum.inr
  | [], _, _ => rfl
  | k :: ks, [], h => by cases h
  | k :: ks, v :: vs, h => by
    exact congrArg (List.cons (Sum.inr k : Key)) (zip_keys (ks := ks) (vs := vs) (by simpa using h))
theorem kvs_rm {K : PySem.W.Frag} : ∀ {ks : List Str} {vs : List V} {ds : List PyData} {m : List (PyData × Mu)}, RpAll K G vs ds → kvsOf ks ds = some m → RMk K H G ((ks.map Sum.inr : List Key).zip vs) m [] ∧ vs.length = ks.length
  | [], _, _, m, .nil, h => by cases h; exact ⟨.nil, rfl⟩
  | [], _, _, m, .cons _ _, h => by cases h
  | _ :: _, _, _, m, .nil, h => by cases h
  | k :: ks, _, _, m, .cons (d := d) (ds := ds) r rs, h => by
    have h' : (kvsOf ks ds).map ((PyData.str k, Mu.d d) :: ·) = some m := h
    cases e : kvsOf ks ds with
    | none => rw [e] at h'; cases h'
    | some m' =>
      rw [e] at h'
      cases h'
      obtain ⟨i1, i2⟩ := kvs_rm rs e
      exact ⟨RMk.cons (k := Sum.inr k) (f := []) (g := []) (.d r) i1 (fun _ z => nomatch z), congrArg Nat.succ i2⟩
theorem disp_read {ks : List Str} {es : List Ex} {Es : List Expr} {pos : Pos} {Ks : List (Option Expr)} (c : Cok w kc k X W) (h1 : strKs ks Ks = true) (h2 : cks es kc Es = true) {β : Type} {kk : Ko β} {fr : List PyData × En → Res β} {Q : VK} (st : StOk w pv σa σ H G F)
    (pp : Post w H G F ((sms w.P.C (callF w.P k) es σa).bind fr) kk (KXs w W)) (nd : ks.Nodup) (n0 : 0 < ks.length) (n15 : ks.length ≤ 15) (len : es.length = ks.length)
    (fin : ∀ ds σb m D H' G' F', sms w.P.C (callF w.P k) es σa = .ok (ds, σb) → kvsOf ks ds = some m → StOk w pv (.m false (.k false m) :: σb) (some (.ref D) :: σ) H' G' F' → Step w H G F H' G' F' → Q (.ref D) H')
    (tot : ∀ ds, ds.length = ks.length → ∃ m, kvsOf ks ds = some m) : ∃ te, PE X (.Dict Ks Es pos) te ∧ te σ H Q := by
  obtain ⟨g1, l1⟩ := cks_good h2
  obtain ⟨p1, p2, p3⟩ := strKs_of (X := X) (pos := pos) h1 (l1.trans len)
  have lk : Ks.length = ks.length := p3.trans (l1.trans len)
  refine ⟨_, pe_disp p1 p2 p3 (fun z => by rw [z] at lk; simp at lk; omega) (by rw [lk]; exact n15), fun D hD => ?_⟩
  obtain ⟨nF, gD, nT⟩ := st.newNe hD
  have st0 : StOk w pv σa σ (upd H D (.dK [])) G F := st.atD gD nF nT
  have s0 : Step w H G F (upd H D (.dK [])) G F := (Step.refl w H G F).atD hD nT
  refine pairs_ok c nT h2 len.symm st0 upd_same gD nF ((PX (σ := σ) (pp.bind)).step s0 |>.imp (fun q H' G' F' eq s1 _ st1 b1 b2 b3 vs rs => ?_) fun _ _ z => z)
  have lq : q.1.length = ks.length := by rw [sms_length eq, len]
  obtain ⟨m, em⟩ := tot q.1 lq
  obtain ⟨rm, lv⟩ := kvs_rm (H := upd H' D (.dK ((ks.map Sum.inr : List Key).zip vs))) rs em
  have nd' : (((ks.map Sum.inr : List Key).zip vs).map (·.1)).Nodup := by
    rw [zip_keys lv]
    exact List.Pairwise.map _ (fun a b n e => n (Sum.inr.inj e)) nd
  refine ⟨b1, (ks.map Sum.inr : List Key).zip vs, zip_kv ks vs, by rw [List.length_zip, List.length_map]; omega, ?_⟩
  rw [merge_new (acc := []) (by simpa using nd'), List.nil_append]
  have s2 : Step w H G F (upd H' D (.dK ((ks.map Sum.inr : List Key).zip vs))) G' F' := (s0.trans s1).atD hD nT
  refine fin q.1 q.2 m D _ G' (consF [D] F') eq em ((st1.atD b2 b3 nT).cons ⟨_, rfl, .k upd_same rm (fun z => nomatch z), fun z => nomatch z⟩ (fun a ma i => ?_) (fun a ma => ?_) (fun a ma => ?_)) ⟨s2.gle, s2.keep, fun i a ma => ?_, s2.tabk⟩
  · have z : a = D := by simpa using ma
    rw [z]; exact b3 i
  · have z : a = D := by simpa using ma
    rw [z]; exact b2
  · have z : a = D := by simpa using ma
    rw [z]; exact ⟨_, upd_same, trivial⟩
  · cases i with
    | zero =>
      have z : a = D := by simpa [consF] using ma
      rw [z]; exact .inr hD
    | succ i => exact s2.fresh i a ma
theorem kvsOf_tot : ∀ {ks : List Str} {ds : List PyData}, ds.length = ks.length → ∃ m, kvsOf ks ds = some m
  | [], [], _ => ⟨[], rfl⟩
  | [], _ :: _, h => by cases h
  | _ :: _, [], h => by cases h
  | k :: ks, d :: ds, h => by
    obtain ⟨m, e⟩ := kvsOf_tot (ks := ks) (ds := ds) (by simpa using h)
    exact ⟨_, by unfold kvsOf; rw [e]; rfl⟩
theorem kvsOf_len {ks : List Str} {ds : List PyData} {m : List (PyData × Mu)} (h : kvsOf ks ds = some m) : ds.length = ks.length := by
  induction ks generalizing ds m with
  | nil =>
    cases ds with
    | nil => rfl
    | cons _ _ => cases h
  | cons k ks ih =>
    cases ds with
    | nil => cases h
    | cons d ds =>
      have h' : (kvsOf ks ds).map ((PyData.str k, Mu.d d) :: ·) = some m := h
      cases e : kvsOf ks ds with
      | none => rw [e] at h'; cases h'
      | some m' => simp [ih e]
end
end N
/-! N17: the other statements; all of them. -/
namespace N
open PySem PySem.Spec PyProof.Rows L2
section
variable {w : Wd} {kc : Kc} {k : Nat} {X : Cx} {W : WX} {pv : V} {σa : En} {σ : L2.St} {H G H1 G1 : Hp} {F F1 : Fp} {E A B I T : Expr} {S : Stmt} {Ss : List Stmt}
theorem dOk_of {ks : List Str} {n : Nat} (h : dOk ks n = true) : ks.Nodup ∧ 0 < ks.length ∧ ks.length ≤ 15 ∧ n = ks.length := by
  unfold dOk at h
  simpa only [Bool.and_eq_true, decide_eq_true_eq] using h
theorem snd_ownD (i : Nat) (ks : List Str) (es : List Ex) : SndS w (.ownD i ks es) := fun {kc k X W S} c h => by
  have h' : (match (generalizing := false) S with
    | .Assign [.Name x _] (.Dict Ks Es _) _ => kc.sto i x && (strKs ks Ks && cks es kc Es)
    | _ => false) = true := h
  split at h'
  · rename_i x px Ks Es pos spos
    simp only [Bool.and_eq_true] at h'
    obtain ⟨h1, h2, h3⟩ := h'
    have hnd : X.N.Nodup := by rw [c.hN]; exact c.nd
    obtain ⟨n1, n2, n3⟩ := sto_of c.toCok h1
    intro pv σa σ H G F D st pp
    dsimp only [run] at pp
    split at pp
    · rename_i hd
      obtain ⟨d1, d2, d3, d4⟩ := dOk_of hd
      obtain ⟨te, p, q⟩ := disp_read (pos := pos) (Q := fun v H' => D.nx (σ.set i (some v)) H') c.toCok h2 h3 st pp d1 d2 d3 d4 (fun ds σb m Da H' G' F' e1 e2 s1 t1 => by
        rw [e1, ok_bind] at pp
        dsimp only at pp
        rw [e2] at pp
        obtain ⟨s2, t2⟩ := s1.uncons i (fun m z => nomatch z)
        exact pp _ _ _ (t1.trans t2) _ s2) fun ds l => kvsOf_tot l
      exact ofPS (ps_set hnd n1 n2 p rfl n3) q
    · exact pp.elim
  · cases h'
theorem snd_retD (ks : List Str) (es : List Ex) : SndS w (.retD ks es) := fun {kc k X W S} c h => by
  have h' : (match (generalizing := false) S with
    | .Return (some (.Dict Ks Es _)) _ => strKs ks Ks && cks es kc Es
    | _ => false) = true := h
  split at h'
  · rename_i Ks Es pos spos
    simp only [Bool.and_eq_true] at h'
    obtain ⟨h2, h3⟩ := h'
    intro pv σa σ H G F D st pp
    dsimp only [run] at pp
    split at pp
    · rename_i hd
      obtain ⟨d1, d2, d3, d4⟩ := dOk_of hd
      obtain ⟨te, p, q⟩ := disp_read (pos := pos) (Q := D.rt) c.toCok h2 h3 st pp d1 d2 d3 d4 (fun ds σb m Da H' G' F' e1 e2 s1 t1 => by
        rw [e1, ok_bind] at pp
        dsimp only at pp
        rw [e2] at pp
        exact pp _ _ _ t1 _ _ s1) fun ds l => kvsOf_tot l
      exact ofPS (ps_ret p) q
    · exact pp.elim
  · cases h'
/-! ### calls that answer an owned thing -/
theorem StOk.afterR (st : StOk w pv σa σ H G F) {Fc : Fp} (hF : ∀ i a, a ∈ Fc i → False) {pv' : V} {m : Mu} {r2 : Slot} {u pu : V} (s : Step w H G Fc H1 G1 F1) (s2 : StOk w pv' [.m false m, r2] [some u, some pu] H1 G1 F1) :
    StOk w pv (.m false m :: σa) (some u :: σ) H1 G1 (consF (F1 0) F) ∧ Step w H G F H1 G1 (consF (F1 0) F) := by
  obtain ⟨s3, t3⟩ := st.after hF s s2.sub s2.tab
  obtain ⟨v', e', rm, _⟩ := s2.slot 0 _ rfl
  cases e'
  have fr : ∀ a ∈ F1 0, H a = none := fun a ma => by
    rcases s.fresh 0 a ma with ⟨j, z⟩ | z
    · exact (hF j a z).elim
    · exact z
  refine ⟨s3.cons ⟨u, rfl, rm, fun z => nomatch z⟩ (fun a ma i z => ?_) (s2.free 0) (s2.there 0), ⟨t3.gle, t3.keep, fun i a ma => ?_, t3.tabk⟩⟩
  · obtain ⟨o, e, _⟩ := st.there i a z
    rw [fr a ma] at e; cases e
  · cases i with
    | zero => exact .inr (fr a ma)
    | succ i => exact .inl ⟨i, ma⟩
theorem snd_ownC (i f : Nat) (es : List Ex) : SndS w (.ownC i f es) := fun {kc k X W S} c h => by
  have h' : (match (generalizing := false) S with
    | .Assign [.Name y _] (.Call (.Name x _) Es [] _) _ => kc.sto i y && ((kc.gl x && kc.fn f x es.length false) && cks es kc Es)
    | _ => false) = true := h
  split at h'
  · rename_i y py x px Es pos spos
    simp only [Bool.and_eq_true] at h'
    obtain ⟨h0, ⟨h1, h2⟩, h3⟩ := h'
    have hnd : X.N.Nodup := by rw [c.hN]; exact c.nd
    obtain ⟨n1, n2, n3⟩ := sto_of c.toCok h0
    obtain ⟨gx, ok⟩ := gl_of c.toCok h1
    obtain ⟨Fd, e1, e2, e3⟩ := fn_ok c.toCok h2
    obtain ⟨fa, fd, m1, m2, m3, m4⟩ := c.fns f Fd e1
    rw [e2] at m1
    rw [← c.hK] at m2 m3 m4
    intro pv σa σ H G F D st pp
    have use : ∀ {H1 G1 F1 ds vs σ1}, StOk w pv σ1 σ H1 G1 F1 → RpAll w.K G1 vs ds → ds.length = es.length → Post w H1 G1 F1 ((callF w.P k f (ds.map .d)).bind fun r => match r.1 with
        | .m m => .ok (.nx, σ1.set i (.m false m))
        | .d _ => .bad) (KS w pv D) (KXs w W) → SpF w Fd.np (callF w.P k f) vs H1 (fun v H' => D.nx (σ.set i (some v)) H') (WE W σ) := by
      intro H1 G1 F1 ds vs σ1 st1 rs hl z
      refine ⟨by rw [rs.length, hl, e3], .non, ds.map .d, G1, fun _ => [], fun m r e => ?_, argsD st1 rs, ?_⟩
      · cases ds with
        | nil => cases e
        | cons _ _ => cases e
      · generalize callF w.P k f (ds.map .d) = r at z
        cases r with
        | bad => exact z.elim
        | exc cc =>
          refine fun H' G' F' s ex => ?_
          obtain ⟨_, s2⟩ := st1.after (Fc := fun _ => []) (fun i a m => absurd m (by simp)) s ex.sub ex.tab
          exact (z _ _ _ s2 ex).at
        | ok r =>
          refine fun H' G' F' s v s2 => ?_
          obtain ⟨r1, r2⟩ := r
          cases r1 with
          | d _ => exact z.elim
          | m m =>
            obtain ⟨s3, t3⟩ := st1.afterR (Fc := fun _ => []) (fun i a m => absurd m (by simp)) s s2
            obtain ⟨s4, t4⟩ := s3.uncons i (fun m z => nomatch z)
            exact z _ _ _ (t3.trans t4) _ s4
    cases Es with
    | nil =>
      have l0 := (cks_good h3).2
      refine ofPS (ps_set hnd n1 n2 (pe_callS0 m4 (c.room.mono (Nat.le_add_right ..)) gx m1 m2 m3 (passAt c.takes) (okN_d ok).1) rfl n3) ?_
      cases es with
      | cons _ _ => simp at l0
      | nil => exact use (ds := []) (σ1 := σa) st .nil rfl pp
    | cons E Es =>
      obtain ⟨g1, l0⟩ := cks_good h3
      rw [List.all_cons, Bool.and_eq_true] at g1
      refine ofPS (ps_set hnd n1 n2 (pe_callS m4 (c.room.mono (Nat.le_add_right ..)) gx m1 m2 m3 (passAt c.takes) paW (okN_d ok).1 (good_star g1.1) (star_none g1.2)) rfl n3) ?_
      exact sounds es c.toCok h3 pv σa σ H G F _ st (Post.thenS pp fun q H1 G1 F1 eq _ z st1 xs rs => use st1 rs (sms_length eq) z)
  · cases h'
/-! ### answers, control -/
theorem snd_ex (e : Ex) : SndS w (.ex e) := fun {kc k X W S} c h => by
  have h' : (match (generalizing := false) S with
    | .Expr E _ => !isLc E && (ck e).e kc E
    | _ => false) = true := h
  split at h'
  · rename_i E spos
    rw [Bool.and_eq_true, Bool.not_eq_true'] at h'
    intro pv σa σ H G F D st pp
    exact ofPS (ps_expr peW (sw_none (ck_good h'.2) h'.1)) ((sound e).v c.toCok h'.2 pv σa σ H G F _ st (Post.thenS pp fun q H1 G1 F1 _ _ z st1 v rv => z.here _ st1))
  · cases h'
theorem snd_ret (e : Ex) : SndS w (.ret e) := fun {kc k X W S} c h => by
  have h' : (match (generalizing := false) S with
    | .Return (some E) _ => (ck e).e kc E
    | .Return none _ => (match (generalizing := false) e with
      | .non => true
      | _ => false)
    | _ => false) = true := h
  split at h'
  · rename_i E spos
    intro pv σa σ H G F D st pp
    refine ofPS (ps_ret peW) ((sound e).v c.toCok h' pv σa σ H G F _ st (Post.thenS pp fun q H1 G1 F1 _ _ z st1 v rv => ?_))
    obtain ⟨s2, t2⟩ := st1.consD rv
    exact z _ _ _ t2 _ _ s2
  · cases e <;> try (cases h'; done)
    intro pv σa σ H G F D st pp
    obtain ⟨s2, t2⟩ := st.consD (x := .none) (v := .non) .non
    exact ofPS ps_retN (pp _ _ _ t2 _ _ s2)
  · cases h'
theorem snd_retO (i : Nat) : SndS w (.retO i) := fun {kc k X W S} c h => by
  have h' : (match (generalizing := false) S with
    | .Return (some (.Name x _)) _ => kc.var i x
    | _ => false) = true := h
  split at h'
  · rename_i x px spos
    intro pv σa σ H G F D st pp
    dsimp only [run] at pp
    split at pp
    · rename_i m em
      obtain ⟨v, ev, rm, _⟩ := st.slot i _ em
      refine ofPS (ps_ret (var_of c.toCok h')) ⟨v, ev, ?_⟩
      have s2 := (st.wipe1 i).cons (s := .m false m) (v := v) (f := F i) ⟨v, rfl, rm, fun z => nomatch z⟩ (fun a ma i' => by
        by_cases z : i' = i
        · rw [if_pos z]; simp
        · rw [if_neg z]; exact st.disj i i' (fun q => z q.symm) a ma) (st.free i) (st.there i)
      refine pp _ _ _ (Step.same fun a x m => ?_) _ _ s2
      cases a with
      | zero => exact ⟨i, m⟩
      | succ a =>
        have m' : x ∈ (if a = i then [] else F a) := m
        by_cases z' : a = i
        · rw [if_pos z'] at m'; cases m'
        · rw [if_neg z'] at m'; exact ⟨a, m'⟩
    · exact pp.elim
  · cases h'
theorem snd_brk : SndS w .brk := fun {kc k X W S} c h => by
  have h' : (match (generalizing := false) S with | .Break _ => true | _ => false) = true := h
  split at h'
  · exact fun pv σa σ H G F D st pp => ofPS ps_break (pp.here _ st)
  · cases h'
theorem snd_cont : SndS w .cont := fun {kc k X W S} c h => by
  have h' : (match (generalizing := false) S with | .Continue _ => true | _ => false) = true := h
  split at h'
  · exact fun pv σa σ H G F D st pp => ofPS ps_continue (pp.here _ st)
  · cases h'
theorem snd_pass : SndS w .pass := fun {kc k X W S} c h => by
  have h' : (match (generalizing := false) S with | .Pass _ => true | _ => false) = true := h
  split at h'
  · exact fun pv σa σ H G F D st pp => ofPS ps_pass (pp.here _ st)
  · cases h'
theorem snd_raise (x m : Str) : SndS w (.raise x m) := fun {kc k X W S} c h => by
  have h' : (match (generalizing := false) S with
    | .Raise (some (.Call (.Name y _) [.Constant (.str z) _ _] [] _)) none _ => (decide (y = x) && kc.gl y) && decide (z = m)
    | _ => false) = true := h
  split at h'
  · simp only [Bool.and_eq_true, decide_eq_true_eq] at h'
    obtain ⟨⟨rfl, h2⟩, _⟩ := h'
    obtain ⟨gx, ok⟩ := gl_of c.toCok h2
    intro pv σa σ H G F D st pp
    dsimp only [run] at pp
    split at pp
    · rename_i hm
      obtain ⟨f, _, _⟩ := c.exs _ hm
      obtain ⟨B, newId, initId, bmB, f1, f2⟩ := f.own
      exact ofPS (ps_raise c.calm c.takes (pmk_own (X := X) f1 (by rw [c.hK]; exact f2) f.here (by rw [c.hK]; exact f.keep) (raises_own (by rw [c.hK]; exact f.base) (by rw [c.hK]; exact f.typ)) gx (okN_d ok).1)) (pp _ _ _ (.refl ..) st.ex σ)
    · exact pp.elim
  · cases h'
theorem sndS_ifs {c : Ex} {a b : List Cm} (sa : SndSs w a) (sb : SndSs w b) : SndS w (.ifs c a b) := fun {kc k X W S} cc h => by
  have h' : (match (generalizing := false) S with
    | .If C A B _ => (ck c).e kc C && (ckSs a kc A && ckSs b kc B)
    | _ => false) = true := h
  split at h'
  · simp only [Bool.and_eq_true] at h'
    obtain ⟨h1, h2, h3⟩ := h'
    intro pv σa σ H G F D st pp
    refine ofPS (ps_if ptW pssW pssW) ((sound c).t cc.toCok h1 pv σa σ H G F _ st (Post.thenS pp fun q H1 G1 F1 _ _ z st1 => ?_))
    cases hq : q.1 with
    | true =>
      rw [if_pos rfl]
      rw [hq] at z
      exact sa cc h2 pv q.2 σ H1 G1 F1 D st1 z
    | false =>
      rw [if_neg Bool.false_ne_true]
      rw [hq] at z
      exact sb cc h3 pv q.2 σ H1 G1 F1 D st1 z
  · cases h'
theorem sndS_whl {c : Ex} {b : List Cm} (sb : SndSs w b) : SndS w (.whl c b) := fun {kc k X W S} cc h => by
  have h' : (match (generalizing := false) S with
    | .While C B [] _ => (ck c).e kc C && ckSs b kc B
    | _ => false) = true := h
  split at h'
  · simp only [Bool.and_eq_true] at h'
    obtain ⟨h1, h2⟩ := h'
    intro pv σa σ H G F D st pp
    refine ofPS (ps_while cc.pas ptW pssW) ⟨fun m σ H => ∃ σa G F, StOk w pv σa σ H G F ∧ Post w H G F (whlL (sm w.P.C (callF w.P k) c).t (runs w.P.C w.P.sub (callF w.P k) b) m σa) (KS w pv D) (KXs w W), ⟨FUEL, σa, G, F, st, pp⟩, ?_⟩
    rintro m σ H ⟨σa, G, F, st, pp⟩
    cases m with
    | zero => exact pp.elim
    | succ m =>
      refine (sound c).t cc.toCok h1 pv σa σ H G F _ st (Post.thenS pp fun q H1 G1 F1 _ _ z st1 => ?_)
      cases hq : q.1 with
      | false =>
        rw [if_neg Bool.false_ne_true]
        rw [hq] at z
        exact z.here _ st1
      | true =>
        rw [if_pos rfl]
        rw [hq] at z
        refine ⟨fun σ' H' => ∃ σa G F, StOk w pv σa σ' H' G F ∧ Post w H' G F (whlL (sm w.P.C (callF w.P k) c).t (runs w.P.C w.P.sub (callF w.P k) b) m σa) (KS w pv D) (KXs w W), fun σ' H' n => ⟨m, Nat.lt_succ_self m, n⟩, ?_⟩
        refine sb cc h2 pv q.2 σ H1 G1 F1 _ st1 (Post.then z fun p H' G' F' _ s' z' => ?_)
        obtain ⟨f, σb⟩ := p
        cases f with
        | nx => exact fun σ' st' => ⟨σb, G', F', st', z'⟩
        | ct => exact fun σ' st' => ⟨σb, G', F', st', z'⟩
        | bk => exact fun σ' st' => z'.here σ' st'
        | rt r => exact fun σ' v st' => z'.here σ' v st'
  · cases h'
theorem sndS_for {t : Tg} {it : Ir} {b : List Cm} (sb : SndSs w b) : SndS w (.for t it b) := fun {kc k X W S} cc h => by
  have h' : (match (generalizing := false) S with
    | .For T I B [] _ => ckT kc t T && (ckI it kc T I && ckSs b kc B)
    | _ => false) = true := h
  split at h'
  · simp only [Bool.and_eq_true] at h'
    obtain ⟨h1, h2, h3⟩ := h'
    intro pv σa σ H G F D st pp
    refine ofPS (ps_for cc.pas cc.calm piW pgW pssW (good_folded' (ckI_good h2))) ((soundI it cc.toCok h2).1 pv σa σ H G F _ st (Post.thenS pp fun q H0 G0 F0 _ _ z st0 J wk => ?_))
    refine ⟨fun i m σ H => m = q.1.length - i ∧ i ≤ q.1.length ∧ ∃ σa G F, StOk w pv σa σ H G F ∧ Le G0 G ∧ Post w H G F (forL (fun x σ => (ofO (bindT t x σ)).bind fun σ1 => runs w.P.C w.P.sub (callF w.P k) b σ1) (q.1.drop i) σa) (KS w pv D) (KXs w W), ⟨_, rfl, Nat.zero_le _, q.2, G0, F0, st0, .refl _, z⟩, ?_⟩
    rintro i m σ H ⟨rfl, hile, σa, G, F, st, l0, pp⟩
    obtain ⟨ws, wg⟩ := wk i H (l0.trans st.sub)
    by_cases hlt : i < q.1.length
    · obtain ⟨x, ex, ed⟩ := drop_cons hlt
      rw [ed] at pp
      obtain ⟨g1, g2⟩ := wg x ex
      refine .inr ⟨g1, fun σ' H' => ∃ σa G F, StOk w pv σa σ' H' G F ∧ Le G0 G ∧ Post w H' G F (forL (fun x σ => (ofO (bindT t x σ)).bind fun σ1 => runs w.P.C w.P.sub (callF w.P k) b σ1) (q.1.drop (i + 1)) σa) (KS w pv D) (KXs w W), fun σ' H' n => ⟨_, by omega, rfl, hlt, n⟩, fun v H' hy => ?_⟩
      have pp' : Post w H G F (((ofO (bindT t x σa)).bind fun σ1 => runs w.P.C w.P.sub (callF w.P k) b σ1).bind _) (KS w pv D) (KXs w W) := pp
      obtain ⟨Gy, sty, sy, ry⟩ := st.yield l0 (g2 v H' hy)
      have py := pp'.step sy
      cases eb : bindT t x σa with
      | none => rw [eb] at py; exact py.elim
      | some σ1 =>
        rw [eb] at py
        refine tgt cc.toCok h1 eb sty ry fun σ2 F2 st2 s2 _ => ?_
        refine sb cc h3 pv σ1 σ2 H' Gy F2 _ st2 (Post.then (py.step s2) fun p H3 G3 F3 _ s3 z' => ?_)
        have l3 : Le G0 G3 := l0.trans (sy.gle.trans (s2.gle.trans s3.gle))
        obtain ⟨f, σb⟩ := p
        cases f with
        | nx => exact fun σ' st' => ⟨σb, G3, F3, st', l3, z'⟩
        | ct => exact fun σ' st' => ⟨σb, G3, F3, st', l3, z'⟩
        | bk => exact fun σ' st' => z'.here σ' st'
        | rt r => exact fun σ' v st' => z'.here σ' v st'
    · have e : i = q.1.length := by omega
      rw [e, List.drop_length] at pp
      exact .inl ⟨ws (by omega), pp.here _ st⟩
  · cases h'
/-! ### a try that is caught -/
theorem CokS.tr (c : CokS w kc k X W) {W' : WX} {pn : List (Addr × Obj)} {xe : Value → Shared → Prop} (tk : Takes (X.tr pn xe) W') (pa : PassesOwn (model X.prog X.w) X.A X.env xe) : CokS w kc k (X.tr pn xe) W' where
  hN := c.hN
  nd := c.nd
  hsc := c.hsc
  hfb := c.hfb
  hP := c.hP
  calm := c.calm
  room := c.room
  hK := c.hK
  takes := tk
  fns := c.fns
  mgs := c.mgs
  cod := c.cod
  stk := c.stk
  frm := c.frm
  pas := pa
  fun' := c.fun'
  exs := c.exs
/-- isinstance of the error that is held -/
theorem pe_isErr (c : CokS w kc k X W) {n : Nat} {y b : Str} {R : Expr} (hy : kc.N[n]? = some y) (h : isB kc n y b R = true) {x : Str} (q : ExcSub w.K X.mg w x b) {a : Addr} {oe : Obj} {pn : List (Addr × Obj)} (hz : Zc (.ref (w.ca x)) none oe) (hf : ∃ vs, oe.data = .fields vs) :
    PE (X.suite a ((a, oe) :: pn)) R (fun σ H Q => ∃ σ0 : L2.St, σ = σ0.set n (some (.ref a)) ∧ Q (.bl true) H) ∧ plainT R = true := by
  unfold isB at h
  split at h
  · rename_i f fp z zp u up cpos
    simp only [Bool.and_eq_true, decide_eq_true_eq] at h
    obtain ⟨⟨rfl, hf', hz', rfl⟩, rfl, hb⟩ := h
    obtain ⟨gf, of⟩ := gl_of c.toCok hf'
    obtain ⟨gb, ob⟩ := gl_of c.toCok hb
    have pv : PE (X.suite a ((a, oe) :: pn)) (.Name z zp) (tVar n) := by
      unfold Kc.var at hz'
      simp only [Bool.and_eq_true, decide_eq_true_eq] at hz'
      obtain ⟨h1, h2, h3⟩ := hz'
      obtain ⟨d1, d2, _⟩ := okN_d h3
      exact pe_var (by rw [show (X.suite a ((a, oe) :: pn)).N = X.N from rfl, c.hN]; exact h1) (by rw [show (X.suite a ((a, oe) :: pn)).env = X.env from rfl, c.hsc]; exact vis_of h2) d1 d2
    have pg : PE (X.suite a ((a, oe) :: pn)) (.Name u up) (tC (.ref (w.ca u))) := pe_glob gb q.base rfl (okN_d ob).1
    refine ⟨⟨fun pins s σ H Q I ⟨σ0, e, hq⟩ => ?_⟩, rfl⟩
    refine (pe_callB (call_isE (X := X) (by rw [c.hK]; exact q.all.isx) hz hf) gf (c.mgs.blt _ (by decide +kernel)) (show bootBuiltins (Str.ofString "isinstance") = some (.builtin "isinstance") by decide +kernel) (pa_cons pv (pa_cons pg pa_nil rfl) rfl) (by decide +kernel) (by decide +kernel) rfl rfl).run pins s σ H Q I ?_
    have hl : n < σ0.length := by
      have l := I.len
      rw [e, List.length_set] at l
      rw [l]
      rw [show (X.suite a ((a, oe) :: pn)).N = X.N from rfl, c.hN]
      exact (List.getElem?_eq_some_iff.mp hy).1
    refine ⟨.ref a, by rw [e, List.getElem?_set_self hl], .ref (w.ca u), .ref (w.ca u), true, rfl, fun _ r => r, by rw [c.hK]; exact q.kit, hq⟩
  · cases h
theorem pe_cst {d : PyData} (h : cstB d A = true) : ∃ v, PE X A (tC v) ∧ ∀ G, Rp w.K G v d := by
  unfold cstB at h
  split at h
  · exact ⟨_, pe_non, fun _ => .non⟩
  · rw [decide_eq_true_eq] at h
    subst h
    exact ⟨_, pe_str, fun _ => .str _⟩
  · have e := eq_of_beq h
    subst e
    exact ⟨_, pe_bl, fun _ => .bl _⟩
  · cases h
theorem pe_ans (c : CokS w kc k X W) {n : Nat} {y b : Str} {an : Option PyData} {R : Expr} (hy : kc.N[n]? = some y) (h : ansB kc n y b an R = true) {x : Str} (q : ExcSub w.K X.mg w x b) {a : Addr} {oe : Obj} {pn : List (Addr × Obj)} (hz : Zc (.ref (w.ca x)) none oe) (hf : ∃ vs, oe.data = .fields vs) :
    PE (X.suite a ((a, oe) :: pn)) R (fun σ H Q => (∃ σ0 : L2.St, σ = σ0.set n (some (.ref a))) ∧ ∀ v, (∀ G, Rp w.K G v (an.getD (.bool true))) → Q v H) := by
  unfold ansB at h
  split at h
  · obtain ⟨p, _⟩ := pe_isErr c hy h q (pn := pn) (a := a) hz hf
    exact ⟨fun pins s σ H Q I ⟨⟨σ0, e⟩, hq⟩ => p.run pins s σ H Q I ⟨σ0, e, hq _ fun _ => .bl true⟩⟩
  · rw [Bool.and_eq_true] at h
    obtain ⟨p, pl⟩ := pe_isErr c hy h.1 q (pn := pn) (a := a) hz hf
    obtain ⟨v, pc, rv⟩ := pe_cst (w := w) (X := X.suite a ((a, oe) :: pn)) h.2
    refine ⟨fun pins s σ H Q I ⟨⟨σ0, e⟩, hq⟩ => (pe_ifExp (pt_truth p (plain_true pl)) pc peW).run pins s σ H Q I ⟨σ0, e, true, rfl, ?_⟩⟩
    simp only [if_true]
    exact hq v rv
  · cases h
theorem sndS_try {body : List Cm} {n : Nat} {x b : Str} {an : Option PyData} (sb : SndSs w body) : SndS w (.tryIs body n x b an) := fun {kc k X W S} c h => by
  have h' : (match (generalizing := false) S with
    | .Try B [.ExceptHandler (some (.Name x' _)) (some y) [.Return (some R) _] _] [] [] _ =>
        ((decide (x' = x) && kc.gl x) && (decide (kc.N[n]? = some y) && locB kc.sc y)) && (ansB kc n y b an R && ckSs body kc B)
    | _ => false) = true := h
  split at h'
  · rename_i B x' xp y R rpos hpos tpos
    simp only [Bool.and_eq_true, decide_eq_true_eq] at h'
    obtain ⟨⟨⟨rfl, hx⟩, hy, hyl⟩, hR, hB⟩ := h'
    obtain ⟨gx, ox⟩ := gl_of c.toCok hx
    have hnd : X.N.Nodup := by rw [c.hN]; exact c.nd
    have hyl' : X.env.kindOf y = some .local := by
      rw [show X.env.kindOf y = X.env.scope.names.lookup y from rfl, c.hsc]
      unfold locB at hyl
      cases e : kc.sc.names.lookup y with
      | none => rw [e] at hyl; cases hyl
      | some q => rw [e] at hyl; cases q <;> first | rfl | cases hyl
    intro pv σa σ H G F D st pp
    dsimp only [run] at pp
    split at pp
    · rename_i hm
      have q := c.exs _ hm
      have hx1 : Names X x' (.ref (w.ca x')) := ⟨gx, (okN_d ox).1, .inl q.all.here⟩
      refine ofPS (ps_try_as (tb := fun W' D σ H => ∀ pn xe, Takes (X.tr pn xe) W' → PassesOwn (model X.prog X.w) X.A X.env xe → WpSs (X.tr pn xe) B D σ H)
        (ts := fun a cls d D σ H => cls = .ref (w.ca x') ∧ d = none ∧ (∃ σ0 : L2.St, σ = σ0.set n (some (.ref a))) ∧ ∀ v, (∀ G, Rp w.K G v (an.getD (.bool true))) → D.rt v H) c.stk c.frm hnd (by rw [c.hN]; exact hy) hyl' hx1 c.takes
        (fun W' pn xe tk pa => ⟨fun pins s σ H D I h => h pn xe tk pa pins s I⟩) (fun a oe cls d pn hzc hdat => ⟨fun pins s σ H D I ⟨e1, e2, e3, hq⟩ => ?_⟩)) fun pn xe tk pa => ?_
      · subst e1 e2
        exact (pss_one (ps_ret (pe_ans c hy hR q hzc hdat))).run pins s σ H D I ⟨e3, hq⟩
      · refine sb (c.tr tk pa) hB pv σa σ H G F D st ?_
        cases hr : runs w.P.C w.P.sub (callF w.P k) body σa with
        | ok p => rw [hr] at pp; exact pp
        | bad => rw [hr] at pp; exact pp
        | exc c' =>
          rw [hr] at pp
          dsimp only at pp
          split at pp
          · rename_i e
            subst e
            intro H' G' F' s ex σ'
            refine ⟨true, by rw [c.hK]; exact q.all.exm, fun _ a ha => ⟨rfl, rfl, ⟨σ', rfl⟩, fun v rv => ?_⟩, fun z => nomatch z⟩
            refine pp H' G' (fun _ => []) (s.less fun i x m => nomatch m) [] v ⟨rfl, ex.sub, fun i y e => ?_, (fun _ _ _ _ m => nomatch m), (fun _ _ m => nomatch m), (fun _ _ m => nomatch m), ex.tab⟩
            cases i with
            | zero => cases e; exact ⟨v, rfl, rv _⟩
            | succ i => cases e
          · exact pp.elim
    · exact pp.elim
  · cases h'
/-! ### all statements -/
theorem sndSs_nil : SndSs w [] := fun {kc k X W Ss} c h => by
  cases Ss with
  | cons _ _ => exact Bool.noConfusion h
  | nil => exact fun pv σa σ H G F D st pp => ofPSs pss_nil (pp.here _ st)
theorem sndSs_fgt {is : List Nat} {ss : List Cm} (h2 : SndSs w ss) : SndSs w (.fgt is :: ss) := fun {kc k X W Ss} c h => by
  intro pv σa σ H G F D st pp
  exact h2 c (show ckSs ss kc Ss = true from h) pv (wipeE σa is) σ H G (wipeF F is) D (st.wipeA is) (Post.step (r := runs w.P.C w.P.sub (callF w.P k) ss (wipeE σa is)) pp (Step.same wipeF_less))
theorem sndSs_cons {s : Cm} {ss : List Cm} (h1 : SndS w s) (h2 : SndSs w ss) (n : ∀ is, s ≠ .fgt is) : SndSs w (s :: ss) := fun {kc k X W Ss} c h => by
  have h' : (match (generalizing := false) Ss with
      | S :: Ss => ckS s kc S && ckSs ss kc Ss
      | [] => false) = true := by
    cases s <;> first | exact h | exact absurd rfl (n _)
  cases Ss with
  | nil => cases h'
  | cons S Ss =>
    have h' : (ckS s kc S && ckSs ss kc Ss) = true := h'
    rw [Bool.and_eq_true] at h'
    intro pv σa σ H G F D st pp
    refine ofPSs (pss_cons psW pssW) (h1 c h'.1 pv σa σ H G F _ st (Post.then (show Post w H G F ((run w.P.C w.P.sub (callF w.P k) s σa).bind _) _ _ from pp) fun p H1 G1 F1 _ _ z => ?_))
    obtain ⟨f, σb⟩ := p
    cases f with
    | nx => exact fun σ' st' => h2 c h'.2 pv σb σ' H1 G1 F1 D st' z
    | ct => exact z.here
    | bk => exact z.here
    | rt r => exact z.here
mutual
theorem soundS : ∀ s : Cm, (∀ is, s ≠ .fgt is) → SndS w s
  | .asg t e, _ => snd_asg t e
  | .asg2 i j e, _ => snd_asg2 i j e
  | .par2 i j a b, _ => snd_par2 i j a b
  | .own i e, _ => snd_own i e
  | .ownD i ks es, _ => snd_ownD i ks es
  | .ownC i f es, _ => snd_ownC i f es
  | .mv i j, _ => snd_mv i j
  | .aug i o e, _ => snd_aug i o e
  | .app j e, _ => snd_app j e
  | .ownE i, _ => snd_ownE i
  | .parL i j a x b, _ => snd_parL i j a x b
  | .rem j e, _ => snd_rem j e
  | .ext j e, _ => snd_ext j e
  | .setP j i e, _ => snd_setP j i e
  | .augP j i o e, _ => snd_augP j i o e
  | .ex e, _ => snd_ex e
  | .ifs _ a b, _ => sndS_ifs (soundSs a) (soundSs b)
  | .whl _ b, _ => sndS_whl (soundSs b)
  | .for _ _ b, _ => sndS_for (soundSs b)
  | .fgt is, n => absurd rfl (n is)
  | .ret e, _ => snd_ret e
  | .retO i, _ => snd_retO i
  | .retD ks es, _ => snd_retD ks es
  | .brk, _ => snd_brk
  | .cont, _ => snd_cont
  | .pass, _ => snd_pass
  | .raise c m, _ => snd_raise c m
  | .tryIs body _ _ _ _, _ => sndS_try (soundSs body)
termination_by structural s => s
theorem soundSs : ∀ ss : List Cm, SndSs w ss
  | [] => sndSs_nil
  | s :: ss => Classical.byCases (p := ∃ is, s = .fgt is) (fun h => h.elim fun is e => e ▸ sndSs_fgt (soundSs ss)) fun h => sndSs_cons (soundS s fun is e => h ⟨is, e⟩) (soundSs ss) fun is e => h ⟨is, e⟩
termination_by structural ss => ss
end
end
end N
/-! N18: a program; what its defs promise; the end of a law. -/
namespace N
open PySem PySem.Spec PyProof.Rows L2
/-- what must be known of one def -/
structure FdOk (w : Wd) (mg : Str → Option Value) (F : Fd) : Prop where
  ok : ∃ (f : Addr) (fd : FuncData) (qual : Str) (params : Arguments) (body : List Stmt) (scope : Scope), mg F.name = some (.ref f) ∧ PySem.W.keepIn w.K (.ref f) = true ∧ Binds w.K fd (F.N.take F.np) [] ∧
    FunD w.K F.name qual params body scope [] [] f fd ∧ FnScope F.N (F.N.take F.np) scope ∧ F.np ≤ F.N.length ∧ ckSs F.body ⟨F.N, scope, fun _ => true, w.P, 2, F.tab⟩ body = true ∧ ∀ j, F.tab = some j → ∃ p, w.tabs[j]? = some p ∧ fd.code = .ref p.1
structure PgOk (w : Wd) (mg : Str → Option Value) : Prop where
  fds : ∀ (i : Nat) (F : Fd), w.P.fns[i]? = some F → FdOk w mg F
  mgs : Mgs w mg
  exs : ∀ p ∈ w.P.sub, ExcSub w.K mg w p.1 p.2
section
variable {w : Wd} {k : Nat} {X : Cx} {W : WX} {pv : V} {σa : En} {σ : L2.St} {H G H1 G1 : Hp} {F F1 : Fp} {prog : Program} {wo : World} {mg : Str → Option Value} {base : Heap}
theorem startE_eq {n : Nat} {own : Bool} {args : List AV} : startE n own args = args.map slotA ++ List.replicate (n - args.length) Slot.u := by
  unfold startE
  rw [List.map_congr_left (g := slotA)]
  intro a _
  cases a <;> rfl
/-- a def's slots at its entry -/
theorem StOk.start {args : List AV} {vs : List V} {n : Nat} {own : Bool} {N : List Str} (st : StOk w pv (args.map slotA) (vs.map some) H G F) (hF : ∀ i, args.length ≤ i → F i = []) (hn : n = N.length) : StOk w pv (startE n own args) (start N vs) H G F := by
  have hl : args.length = vs.length := by have := st.len; simpa using this
  refine ⟨?_, st.sub, fun i s e => ?_, st.disj, st.free, st.there, st.tab⟩
  · rw [startE_eq]
    simp [L2.start, hl, hn]
  · have e' : (args.map slotA ++ List.replicate (n - args.length) Slot.u)[i]? = some s := by
      rw [startE_eq] at e
      exact e
    by_cases h : i < args.length
    · rw [List.getElem?_append_left (by simpa using h)] at e'
      have q := st.slot i s e'
      have e2 : (L2.start N vs)[i]? = (vs.map some)[i]? := by
        unfold L2.start
        rw [List.getElem?_append_left (by rw [List.length_map, ← hl]; exact h)]
      rw [e2]
      exact q
    · rw [List.getElem?_append_right (by simpa using h)] at e'
      rw [List.getElem?_replicate] at e'
      split at e'
      · cases e'
        trivial
      · cases e'
/-- past the arguments nothing is owned -/
def capF (F : Fp) (n : Nat) : Fp := fun i => if i < n then F i else []
theorem StOk.cap (st : StOk w pv σa σ H G F) : StOk w pv σa σ H G (capF F σa.length) ∧ ∀ i x, x ∈ capF F σa.length i → ∃ j, x ∈ F j := by
  have sub : ∀ i x, x ∈ capF F σa.length i → x ∈ F i := fun i x m => by
    unfold capF at m
    split at m
    · exact m
    · cases m
  refine ⟨⟨st.len, st.sub, fun i s e => ?_, fun i j n a m q => st.disj i j n a (sub i a m) (sub j a q), fun i a m => st.free i a (sub i a m), fun i a m => st.there i a (sub i a m), st.tab⟩, fun i x m => ⟨i, sub i x m⟩⟩
  have h := (List.getElem?_eq_some_iff.mp e).1
  unfold capF
  rw [if_pos h]
  exact st.slot i s e
/-- behind a def's body: what the caller gets -/
theorem end_ok {own : Bool} {r : AV} {v : V} {kk : Ko (AV × Option Mu)} {x : Str → Hp → Prop} (st : StOk w pv (resS r :: σa) (some v :: σ) H G F) (p : Post w H G F (endE own r σa) kk x) :
    ∃ a F', endE own r σa = .ok a ∧ StOk w pv [resS a.1, ownS a.2] [some v, some pv] H G F' ∧ (∀ i x, x ∈ F' i → ∃ j, x ∈ F j) := by
  cases own with
  | false =>
    refine ⟨(r, none), fun i => if i = 0 then F 0 else [], rfl, ⟨rfl, st.sub, fun i s e => ?_, fun i j n a m => ?_, fun i a m => ?_, fun i a m => ?_, st.tab⟩, fun i x m => ?_⟩
    · cases i with
      | zero => cases e; exact st.slot 0 _ rfl
      | succ i =>
        cases i with
        | zero => cases e; trivial
        | succ i => cases e
    · replace m : a ∈ (if i = 0 then F 0 else []) := m
      show a ∉ (if j = 0 then F 0 else [])
      by_cases h : i = 0
      · rw [if_neg fun z => n (h.trans z.symm)]; simp
      · rw [if_neg h] at m; cases m
    · replace m : a ∈ (if i = 0 then F 0 else []) := m
      by_cases h : i = 0
      · rw [if_pos h] at m; exact st.free 0 a m
      · rw [if_neg h] at m; cases m
    · replace m : a ∈ (if i = 0 then F 0 else []) := m
      by_cases h : i = 0
      · rw [if_pos h] at m; exact st.there 0 a m
      · rw [if_neg h] at m; cases m
    · replace m : x ∈ (if i = 0 then F 0 else []) := m
      by_cases h : i = 0
      · rw [if_pos h] at m; exact ⟨0, m⟩
      · rw [if_neg h] at m; cases m
  | true =>
    unfold endE at p ⊢
    dsimp only at p ⊢
    split at p
    · rename_i m em
      refine ⟨(r, some m), fun i => if i < 2 then F i else [], rfl, ⟨rfl, st.sub, fun i s e => ?_, fun i j n a ma => ?_, fun i a ma => ?_, fun i a ma => ?_, st.tab⟩, fun i x ma => ?_⟩
      · cases i with
        | zero => cases e; exact st.slot 0 _ rfl
        | succ i =>
          cases i with
          | zero =>
            cases e
            obtain ⟨u, e1, rm, hp⟩ := st.slot 1 _ em
            have e2 := hp rfl
            subst e2
            exact ⟨u, rfl, rm, fun _ => rfl⟩
          | succ i => cases e
      · split at ma
        · split
          · exact st.disj i j n a ma
          · simp
        · cases ma
      · split at ma
        · exact st.free i a ma
        · cases ma
      · split at ma
        · exact st.there i a ma
        · cases ma
      · replace ma : x ∈ (if i < 2 then F i else []) := ma
        split at ma
        · exact ⟨i, ma⟩
        · cases ma
    · exact p.elim
/-- one def keeps its promise, if the ones that it calls do -/
theorem fn_step (pk : PgOk w mg) (tb : ∀ p ∈ w.tabs, GxR.TabB base mg p.1 p.2) (hk : FnsOk w k prog wo mg base) {i : Nat} {Fd : Fd} (e : w.P.fns[i]? = some Fd) {f : Addr} {fd : FuncData} {qual : Str} {params : Arguments} {body : List Stmt} {scope : Scope}
    (h4 : FunD w.K Fd.name qual params body scope [] [] f fd) (h5 : FnScope Fd.N (Fd.N.take Fd.np) scope) (h6 : Fd.np ≤ Fd.N.length) (h7 : ckSs Fd.body ⟨Fd.N, scope, fun _ => true, w.P, 2, Fd.tab⟩ body = true) (h8 : ∀ j, Fd.tab = some j → ∃ p, w.tabs[j]? = some p ∧ fd.code = .ref p.1) :
    FnOk prog wo w.K mg base (L2.CX prog wo) (3 * (k + 1)) f fd (Fd.N.take Fd.np) (SpF w Fd.np (callF w.P (k + 1) i)) := by
  obtain ⟨oc, od, dV, kV, doc, pm, an, cdv, ct, osl, rfl, lk, hcd, _, _⟩ := h4.ex
  show FnOk prog wo w.K mg base (L2.CX prog wo) (3 * k + 2 + 1) f _ _ _
  refine fn_of lk hcd h5 (fun vs H Q E h => ?_) fun A outer s H vs Q E hr h => ⟨WpSs _ body, pssW, ?_⟩
  · rw [h.1, List.length_take]
    omega
  · obtain ⟨hlen, pv, args, G, F, hpv, st, p⟩ := h
    have tk := takes_of (X := cxOf (L2.CX prog wo) prog wo w.K mg base Fd.N qual scope f cdv A outer s H E) (E := E) rfl rfl rfl rfl
    have c : CokS w ⟨Fd.N, scope, fun _ => true, w.P, 2, Fd.tab⟩ k (cxOf (L2.CX prog wo) prog wo w.K mg base Fd.N qual scope f cdv A outer s H E) (fun cls d _ H => E cls d H) :=
      { hN := rfl, nd := h5.nd, hsc := rfl, hfb := rfl, hP := rfl, calm := rfl, room := hr, hK := rfl, takes := tk, fns := hk, mgs := pk.mgs, cod := fun j e => by obtain ⟨p, e1, e2⟩ := h8 j e; exact ⟨p, e1, e2, tb p (List.mem_of_getElem? e1)⟩, stk := rfl, frm := rfl, pas := passes_of rfl, fun' := h5.kind, exs := pk.exs }
    -- what it computes
    have p' : Post w H G F (if args.length = Fd.np ∧ argsOk Fd.own args = true then
      (runs w.P.C w.P.sub (callF w.P k) Fd.body (startE Fd.N.length Fd.own args)).bind fun p => match p.1 with
        | .rt r => endE Fd.own r p.2
        | .nx => endE Fd.own (.d .none) p.2
        | _ => .bad
      else .bad) (fun p H' G' F' => ∀ v, StOk w pv [resS p.1, ownS p.2] [some v, some pv] H' G' F' → Q v H') (fun c H' => E (.ref (w.ca c)) none H') := by
      rw [callF, e] at p
      exact p
    split at p'
    · obtain ⟨st1, l1⟩ := st.cap
      have hl : (args.map slotA).length = args.length := List.length_map _
      have st2 := st1.start (own := Fd.own) (N := Fd.N) (fun i hi => by unfold capF; rw [if_neg]; rw [hl]; omega) rfl
      have p2 := p'.step (Step.same l1)
      refine soundSs Fd.body c h7 pv _ _ H G _ _ st2 (p2.bind.imp (fun q H' G' F' eq s01 z => ?_) fun cc H' z σ' => z)
      obtain ⟨fl, σb⟩ := q
      cases fl with
      | nx =>
        intro σ' st3
        obtain ⟨s4, t4⟩ := st3.consD (x := .none) (v := .non) .non
        obtain ⟨a, F5, ea, s5, l5⟩ := end_ok (r := .d .none) (x := fun c H' => E (.ref (w.ca c)) none H') s4 (Post.step (show Post w H' G' F' (endE Fd.own (.d .none) σb) (fun p H' G' F' => ∀ v, StOk w pv [resS p.1, ownS p.2] [some v, some pv] H' G' F' → Q v H') (fun c H' => E (.ref (w.ca c)) none H') from z) t4)
        have z' : Post w H' G' F' (endE Fd.own (.d .none) σb) (fun p H' G' F' => ∀ v, StOk w pv [resS p.1, ownS p.2] [some v, some pv] H' G' F' → Q v H') (fun c H' => E (.ref (w.ca c)) none H') := z
        rw [ea] at z'
        exact z' H' G' F5 (t4.less l5) .non s5
      | rt r =>
        intro σ' v st3
        obtain ⟨a, F5, ea, s5, l5⟩ := end_ok (x := fun c H' => E (.ref (w.ca c)) none H') st3 (show Post w H' G' F' (endE Fd.own r σb) (fun p H' G' F' => ∀ v, StOk w pv [resS p.1, ownS p.2] [some v, some pv] H' G' F' → Q v H') (fun c H' => E (.ref (w.ca c)) none H') from z)
        have z' : Post w H' G' F' (endE Fd.own r σb) (fun p H' G' F' => ∀ v, StOk w pv [resS p.1, ownS p.2] [some v, some pv] H' G' F' → Q v H') (fun c H' => E (.ref (w.ca c)) none H') := z
        rw [ea] at z'
        exact z' H' G' F5 (Step.same l5) v s5
      | bk => exact z.elim
      | ct => exact z.elim
    · exact p'.elim
/-- every def keeps its promise, at every level -/
theorem fns_all (pk : PgOk w mg) (tb : ∀ p ∈ w.tabs, GxR.TabB base mg p.1 p.2) : ∀ k, FnsOk w k prog wo mg base
  | 0 => fun i Fd e => by
    obtain ⟨f, fd, qual, params, body, scope, h1, h2, h3, h4, h5, h6, h7, h8⟩ := (pk.fds i Fd e).ok
    refine ⟨f, fd, h1, h2, h3, ⟨fun vs H Q E h => ?_, fun A outer s H args us vs Q E _ _ _ _ h => ?_⟩⟩
    · obtain ⟨_, pv, args, G, F, _, _, p⟩ := h
      exact p.elim
    · obtain ⟨_, pv, args, G, F, _, _, p⟩ := h
      exact p.elim
  | k + 1 => fun i Fd e => by
    obtain ⟨f, fd, qual, params, body, scope, h1, h2, h3, h4, h5, h6, h7, h8⟩ := (pk.fds i Fd e).ok
    exact ⟨f, fd, h1, h2, h3, fn_step pk tb (fns_all pk tb k) e h4 h5 h6 h7 h8⟩
end
end N
/-! N19: what is looked up at the head's end; the end of a law. -/
namespace N
open PySem PySem.Spec PyProof.Rows L2
theorem zip_lookup : ∀ {ps : List Str} {us : List Value} {x : Str}, x ∈ ps → us.length = ps.length → ∃ v, (ps.zip us).lookup x = some v
  | [], _, _, h, _ => by cases h
  | p :: ps, [], _, _, l => by cases l
  | p :: ps, u :: us, x, h, l => by
    rw [List.zip_cons_cons, List.lookup_cons]
    cases e : x == p with
    | true => exact ⟨_, rfl⟩
    | false =>
      rcases List.mem_cons.mp h with z | z
      · rw [z] at e; simp at e
      · exact zip_lookup z (by simpa using l)
theorem fm_congr {α β : Type} {f g : α → Option β} : ∀ {l : List α}, (∀ x ∈ l, f x = g x) → l.filterMap f = l.filterMap g
  | [], _ => rfl
  | a :: l, h => by rw [List.filterMap_cons, List.filterMap_cons, h a (List.mem_cons_self ..), fm_congr fun x m => h x (List.mem_cons_of_mem _ m)]
theorem zip_binds : ∀ {ps : List Str} {us : List Value}, ps.Nodup → us.length = ps.length → ps.filterMap (fun n => ((ps.zip us).lookup n).map (n, ·)) = ps.zip us
  | [], us, _, _ => by simp
  | p :: ps, [], _, l => by cases l
  | p :: ps, u :: us, nd, l => by
    rw [List.nodup_cons] at nd
    have ih := zip_binds nd.2 (show us.length = ps.length by simpa using l)
    have e : ps.filterMap (fun n => (((p :: ps).zip (u :: us)).lookup n).map (n, ·)) = ps.filterMap (fun n => ((ps.zip us).lookup n).map (n, ·)) := fm_congr fun x hx => by
      have e : (x == p) = false := by rw [beq_eq_false_iff_ne]; exact fun z => nd.1 (by rw [← z]; exact hx)
      rw [List.zip_cons_cons, List.lookup_cons, e]
    rw [List.filterMap_cons, e, ih, List.zip_cons_cons, List.lookup_cons, beq_self_eq_true]
    rfl
theorem bind_plain {x qual : Str} {params : Arguments} {body : List Stmt} {scope : Scope} {kV doc pm : Value} {an : Option Addr} {cdv ct : Value} {ps : List Str} (h1 : params.posonlyargs = []) (h2 : params.args.map (·.arg) = ps) (h3 : params.vararg.isNone = true) (h4 : params.kwonlyargs = []) (h5 : params.kwarg.isNone = true)
    (nd : ps.Nodup) {us : List Value} (hl : us.length = ps.length) : bindArgs (PySem.W.fnOf x qual params body scope .none kV doc pm an cdv ct) ⟨us, []⟩ = pure (ps.zip us) := by
  obtain ⟨po, as, va, kwo, kwd, ka, dfl⟩ := params
  dsimp only at h1 h2 h3 h4 h5
  subst h1 h2 h4
  cases va with
  | some _ => cases h3
  | none =>
    cases ka with
    | some _ => cases h5
    | none =>
      unfold bindArgs
      have hm : ((as.map (·.arg)).filter fun n => (((as.map (·.arg)).zip us).lookup n).isNone) = [] := by
        rw [List.filter_eq_nil_iff]
        intro n hn
        obtain ⟨v, e⟩ := zip_lookup hn hl
        rw [e]; simp
      have hs : seqItems? (.none : Value) = pure none := rfl
      simp only [PySem.W.fnOf, List.map_nil, List.nil_append, List.append_nil, List.forIn_nil, pure_bind, hs, Option.getD_none, List.drop_nil, List.length_nil, Nat.sub_zero, hl, gt_iff_lt, Nat.lt_irrefl, decide_false, Bool.false_and, List.take_length, List.zip_nil_right, hm, List.isEmpty_nil, zip_binds nd hl, Bool.not_true, Bool.false_eq_true, if_false]
/-! ### constants of the module -/
mutual
def relD (K : PySem.W.Frag) : Nat → Value → PyData → Bool
  | 0, _, _ => false
  | _ + 1, .none, .none => true
  | _ + 1, .bool a, .bool b => a == b
  | _ + 1, .int a _, .int b => decide (a = b)
  | _ + 1, .str a _, .str b => decide (a = b)
  | n + 1, .ref a, .list ds => match K.lookup a with
    | some ⟨.type c, none, .seq its _, _⟩ => decide (c = "list") && (decide (its.size ≤ sizeLine) && relDs K n its.toList ds)
    | _ => false
  | n + 1, .ref a, .tuple ds => match K.lookup a with
    | some ⟨.type c, _, .seq its _, _⟩ => decide (c = "tuple") && (decide (its.size ≤ sizeLine) && relDs K n its.toList ds)
    | _ => false
  | _ + 1, _, _ => false
termination_by structural n => n
def relDs (K : PySem.W.Frag) : Nat → List Value → List PyData → Bool
  | 0, _, _ => false
  | _ + 1, [], [] => true
  | n + 1, u :: us, d :: ds => relD K n u d && relDs K n us ds
  | _ + 1, _, _ => false
termination_by structural n => n
end
mutual
theorem relD_ok {K : PySem.W.Frag} : ∀ {n : Nat} {u : Value} {d : PyData}, relD K n u d = true → ∃ v, RelV v u ∧ ∀ G, Rp K G v d
  | 0, _, _, h => by cases h
  | n + 1, u, d, h => by
    unfold relD at h
    split at h <;> try (cases h; done)
    · exact ⟨.non, rfl, fun _ => .non⟩
    · have e := eq_of_beq h
      subst e
      exact ⟨.bl _, rfl, fun _ => .bl _⟩
    · have e := of_decide_eq_true h
      subst e
      exact ⟨.int _, ⟨_, rfl⟩, fun _ => .int _⟩
    · have e := of_decide_eq_true h
      subst e
      exact ⟨.str _, ⟨_, rfl⟩, fun _ => .str _⟩
    · split at h
      · rename_i c its m sl e
        simp only [Bool.and_eq_true, decide_eq_true_eq] at h
        obtain ⟨rfl, hz, hs⟩ := h
        obtain ⟨vs, r, q⟩ := relDs_ok hs
        exact ⟨.ref _, rfl, fun G => .lst (.inr ⟨_, its, m, e, rfl, rfl, rfl, hz, r⟩) (q G)⟩
      · cases h
    · split at h
      · rename_i c od its m sl e
        simp only [Bool.and_eq_true, decide_eq_true_eq] at h
        obtain ⟨rfl, hz, hs⟩ := h
        obtain ⟨vs, r, q⟩ := relDs_ok hs
        exact ⟨.ref _, rfl, fun G => .tup (.inr ⟨_, its, m, e, rfl, rfl, hz, r⟩) (q G)⟩
      · cases h
theorem relDs_ok {K : PySem.W.Frag} : ∀ {n : Nat} {us : List Value} {ds : List PyData}, relDs K n us ds = true → ∃ vs, Vals vs us ∧ ∀ G, RpAll K G vs ds
  | 0, _, _, h => by cases h
  | n + 1, us, ds, h => by
    unfold relDs at h
    split at h <;> try (cases h; done)
    · exact ⟨[], .nil, fun _ => .nil⟩
    · rw [Bool.and_eq_true] at h
      obtain ⟨v, r, q⟩ := relD_ok h.1
      obtain ⟨vs, rs, qs⟩ := relDs_ok h.2
      exact ⟨v :: vs, .cons r rs, fun G => .cons (q G) (qs G)⟩
end
def conB (K : PySem.W.Frag) (p : Str × PyData) : Bool := match PySem.W.nsIn K mainGlobals p.1 with
  | some (some v) => relD K 100 v p.2
  | _ => false
/-! ### exceptions -/
def excCB (K : PySem.W.Frag) (C : Addr) : Bool :=
  He.eqO (PySem.W.findIn K (.ref C) "__getattribute__") (some (some (.builtin "BaseException.__getattribute__"))) && (He.eqO (PySem.W.findIn K (.ref C) "__getattr__") (some none) && (PySem.W.hasDictIn K C &&
    (He.eqO (PySem.W.findIn K (.ref C) "__class__") (some (some (.builtin "object.__class__"))) && (He.eqO (PySem.W.specialIn K (.builtin "object.__class__") "__get__") (some (some (.builtin "getset_descriptor.__get__"))) &&
      (decide (PySem.W.takesIn K (.builtin "object.__class__") = some true) && decide (PySem.W.mroIn K C (.type "object") = some true))))))
def subB (K : PySem.W.Frag) (p : Str × Str) : Bool :=
  ((He.Fa.glo p.1).ok K && (He.Fa.glo p.2).ok K) && (((He.Fa.exc p.1).ok K && (He.Fa.exm p.1 p.1 true).ok K) && (decide (PySem.W.kitOne K (.ref (He.ga K p.1)) (.ref (He.ga K p.2)) = some true) && excCB K (He.ga K p.1)))
/-! ### code objects and their tables -/
/-- the code object of a def, its table -/
def codeTab (K : PySem.W.Frag) (x : Str) : Addr × Addr := match K.lookup (He.ga K x) with
  | some ⟨_, _, .func fd, _⟩ => (match fd.code with
    | .ref c => (match K.lookup c with
      | some ⟨_, _, .fields (vs : Array Value), _⟩ => (match vs[11]? with
        | some (Value.ref P) => (c, P)
        | _ => (0, 0))
      | _ => (0, 0))
    | _ => (0, 0))
  | _ => (0, 0)
def tabsOf (P : Pg) (K : PySem.W.Frag) : List (Addr × Addr) := (P.fns.filter fun F => F.tab.isSome).map fun F => codeTab K F.name
def codeB (K : PySem.W.Frag) (p : Addr × Addr) : Bool := (match K.lookup p.1 with
  | some ⟨.type t, _, .fields vs, _⟩ => decide (t = "code") && ((match vs[11]?, vs.getD 11 .none with
    | some (Value.ref P), Value.ref P' => decide (P = p.2) && decide (P' = p.2)
    | _, _ => false) && (match vs.getD 18 .none, vs.getD 7 .none, vs.getD 9 .none, vs.getD 10 .none with
    | Value.str .., Value.int .., Value.bool .., Value.int .. => true
    | _, _, _, _ => false))
  | _ => false) && (decide (p.1 ≠ p.2) && (K.lookup p.2).isNone)
def tabFd (P : Pg) (K : PySem.W.Frag) (F : Fd) : Bool := match F.tab with
  | none => true
  | some j => decide ((tabsOf P K)[j]? = some (codeTab K F.name)) && (match K.lookup (He.ga K F.name) with
    | some ⟨_, _, .func fd, _⟩ => (match fd.code with
      | .ref c => decide (c = (codeTab K F.name).1)
      | _ => false)
    | _ => false)
/-- an empty table -/
def emptyB (g : Addr → Option Obj) (a : Addr) : Bool := match g a with
  | some ⟨.none, none, .fields vs, sl⟩ => vs.isEmpty && sl.isEmpty
  | _ => false
theorem emptyB_ok {g : Addr → Option Obj} {a : Addr} (h : emptyB g a = true) : g a = some { cls := .none, data := .fields #[] } := by
  unfold emptyB at h
  split at h
  · rename_i vs sl e
    rw [Bool.and_eq_true, Array.isEmpty_iff, Array.isEmpty_iff] at h
    rw [e, h.1, h.2]
  · cases h
/-- all that is looked up beside the defs -/
def exB (P : Pg) (K : PySem.W.Frag) : Bool := (P.fns.all fun F => (He.Fa.glo F.name).ok K) && ((BN.all fun x => (He.Fa.free x).ok K) && ((P.C.all fun p => conB K p) && ((P.sub.all fun p => subB K p) && ((P.fns.all fun F => tabFd P K F) && (tabsOf P K).all fun p => codeB K p))))
def Says (P : Pg) (fn : List He.DefD) (K : PySem.W.Frag) : Prop := exB P K = true ∧ He.SaysD [] fn K
/-- what is reached from the module, but for tables -/
def frN (n : Nat) (g : Addr → Option Obj) : PySem.W.Frag := He.frG g ((He.asD g n).filter fun a => match g a with
  | some o => (match o.cls with
    | .none => false
    | _ => true)
  | none => false)
def obsP (P : Pg) (fn : List He.DefD) (g : Addr → Option Obj) (K : PySem.W.Frag) : Bool × He.AlD := (exB P K && (tabsOf P K).all fun p => emptyB g p.2, He.obsD [] fn K)
def obsN (n : Nat) (P : Pg) (fn : List He.DefD) (g : Addr → Option Obj) : Bool × He.AlD := obsP P fn g (frN n g)
def hookN (n : Nat) (P : Pg) (fn : List He.DefD) : PySem.W.Hook where
  α := Bool × He.AlD
  obs := fun s => obsN n P fn s.heap.get?
  val := fun _ => (true, He.valD fn)
  says := fun _ h => ∃ K : PySem.W.Frag, K.In h ∧ Says P fn K ∧ ∀ p ∈ tabsOf P K, h.get? p.2 = some { cls := .none, data := .fields #[] }
  of := fun _ s e => ⟨frN n s.heap.get?, He.frG_in, by
    have e1 : (exB P (frN n s.heap.get?) && (tabsOf P (frN n s.heap.get?)).all fun p => emptyB s.heap.get? p.2) = true := congrArg (fun z : Bool × He.AlD => z.1) e
    have e2 : He.obsD [] fn (frN n s.heap.get?) = He.valD fn := congrArg (fun z : Bool × He.AlD => z.2) e
    rw [Bool.and_eq_true, List.all_eq_true] at e1
    exact ⟨⟨e1.1, e2⟩, fun p hp => emptyB_ok (e1.2 p hp)⟩⟩
  keeps := fun _ _ _ ⟨K, hK, c, t⟩ k => ⟨K, PySem.W.Frag.In.keeps hK k, c, fun p hp => k _ _ (t p hp)⟩
theorem obsN_eq {n : Nat} {P : Pg} {fn : List He.DefD} {g : Addr → Option Obj} {s : Shared} (h : ∀ a, g a = s.heap.get? a) : obsN n P fn g = (hookN n P fn).obs s := by
  have e : g = s.heap.get? := funext h
  rw [e] <;> rfl
/-! ### the defs -/
def plainA (a : Arguments) (ps : List Str) : Bool := a.posonlyargs.isEmpty && (decide (a.args.map (·.arg) = ps) && (a.vararg.isNone && (a.kwonlyargs.isEmpty && a.kwarg.isNone)))
def scopeB (N ps : List Str) (sc : Scope) : Bool := fnB sc && (!sc.isCoroutine && (!sc.isGenerator && (decide N.Nodup && ((ps.all fun x => locB sc x || celB sc x) && sc.names.all fun y => match y.2 with
  | .free => false
  | _ => true))))
def fdB (P : Pg) (d : He.DefD) (F : Fd) : Bool := ((decide (d.at_ = (F.name, none)) && decide (d.name = F.name)) && (d.dfl.isEmpty && d.kwd.isEmpty)) && ((plainA d.params (F.N.take F.np) && decide (F.np ≤ F.N.length)) && (scopeB F.N (F.N.take F.np) d.scope && ckSs F.body ⟨F.N, d.scope, fun _ => true, P, 2, F.tab⟩ d.body))
def fdsB (P : Pg) : List He.DefD → List Fd → Bool
  | [], [] => true
  | d :: ds, F :: Fs => fdB P d F && fdsB P ds Fs
  | _, _ => false
theorem fdsB_at {P : Pg} : ∀ {ds : List He.DefD} {Fs : List Fd} {i : Nat} {F : Fd}, fdsB P ds Fs = true → Fs[i]? = some F → ∃ d, ds[i]? = some d ∧ fdB P d F = true
  | [], [], i, F, _, e => by cases e
  | [], _ :: _, _, _, h, _ => by cases h
  | _ :: _, [], _, _, h, _ => by cases h
  | d :: ds, F0 :: Fs, i, F, h, e => by
    have h' : (fdB P d F0 && fdsB P ds Fs) = true := h
    rw [Bool.and_eq_true] at h'
    cases i with
    | zero => cases e; exact ⟨d, rfl, h'.1⟩
    | succ i =>
      obtain ⟨d1, e1, e2⟩ := fdsB_at (ds := ds) (i := i) h'.2 e
      exact ⟨d1, e1, e2⟩
theorem scopeB_ok {N : List Str} {n : Nat} {sc : Scope} (h : scopeB N (N.take n) sc = true) (hn : n ≤ N.length) : FnScope N (N.take n) sc := by
  unfold scopeB at h
  simp only [Bool.and_eq_true, Bool.not_eq_true', decide_eq_true_eq, List.all_eq_true, Bool.or_eq_true] at h
  obtain ⟨h1, h2, h3, h4, h5, h6⟩ := h
  refine ⟨?_, h2, h3, h4, by rw [List.length_take, Nat.min_eq_left hn], fun x hx => ?_, fun y hy e => ?_⟩
  · unfold fnB at h1
    split at h1
    · assumption
    · cases h1
  · have q := h5 x hx
    unfold locB celB at q
    cases e : sc.names.lookup x with
    | none => rw [e] at q; simp at q
    | some z => rw [e] at q; cases z <;> first | exact .inl rfl | exact .inr rfl | simp at q
  · have q := h6 y hy
    rw [e] at q
    cases q
section
variable {P : Pg} {fn : List He.DefD} {K : PySem.W.Frag} {h : Heap} {mg : Str → Option Value}
def wdOf (P : Pg) (K : PySem.W.Frag) (tabs : List (Addr × Addr)) : Wd := ⟨K, P, tabs, He.ga K⟩
theorem tab_of {F : Fd} {qual : Str} {params : Arguments} {body : List Stmt} {scope : Scope} {fd : FuncData} (h : tabFd P K F = true) (FD : FunD K F.name qual params body scope [] [] (He.ga K F.name) fd) : ∀ j, F.tab = some j → ∃ p, (tabsOf P K)[j]? = some p ∧ fd.code = .ref p.1 := by
  intro j e
  unfold tabFd at h
  rw [e] at h
  simp only [Bool.and_eq_true, decide_eq_true_eq] at h
  obtain ⟨oc, od, dV, kV, doc, pm, an, cdv, ct, osl, e1, lk, _⟩ := FD.ex
  refine ⟨_, h.1, ?_⟩
  have h2 := h.2
  rw [lk] at h2
  dsimp only at h2
  split at h2
  · rename_i c ec
    rw [ec, of_decide_eq_true h2]
  · cases h2
theorem codeHd_of (X : K.In h) {p : Addr × Addr} (q : codeB K p = true) : PySem.W.CodeHd h p.1 p.2 ∧ K.lookup p.2 = none := by
  unfold codeB at q
  simp only [Bool.and_eq_true, decide_eq_true_eq] at q
  obtain ⟨q1, q2, q3⟩ := q
  refine ⟨?_, by simpa using q3⟩
  split at q1
  · rename_i t od vs sl e
    simp only [Bool.and_eq_true, decide_eq_true_eq] at q1
    obtain ⟨rfl, q4, q5⟩ := q1
    split at q4
    · rename_i a b e1 e2
      simp only [Bool.and_eq_true, decide_eq_true_eq] at q4
      obtain ⟨rfl, rfl⟩ := q4
      split at q5
      · rename_i f tf fl tg inF tx tt e3 e4 e5 e6
        exact ⟨_, vs, _, _, _, _, _, _, _, X _ _ e, rfl, rfl, e1, e2, e3, e4, e5, e6, q2⟩
      · cases q5
    · cases q4
  · cases q1
theorem pgOk (X : K.In h) (G : h.Ns mainGlobals mg) (c : Says P fn K) (hf : fdsB P fn P.fns = true) : PgOk (wdOf P K (tabsOf P K)) mg := by
  obtain ⟨c1, c2⟩ := c
  unfold exB at c1
  simp only [Bool.and_eq_true, List.all_eq_true] at c1
  obtain ⟨k1, k2, k3, k4, k5, k6⟩ := c1
  refine ⟨fun i F e => ⟨?_⟩, ⟨fun x hx => He.free_ok X G (k2 x hx), fun x d e => ?_⟩, fun p hp => ?_⟩
  · obtain ⟨d, ed, hd⟩ := fdsB_at hf e
    unfold fdB at hd
    simp only [Bool.and_eq_true, decide_eq_true_eq] at hd
    obtain ⟨⟨⟨d1, d2⟩, d3, d4⟩, ⟨d5, d6⟩, d7, d8⟩ := hd
    obtain ⟨fd, FD⟩ := c2.def_ i ed
    have ea : He.fAd K d.at_ = He.ga K F.name := by rw [d1]; rfl
    have e1 : d.dvs K = [] := by unfold He.DefD.dvs; rw [List.isEmpty_iff.mp d3]; rfl
    have e2 : d.kws K = [] := by unfold He.DefD.kws; rw [List.isEmpty_iff.mp d4]; rfl
    rw [ea, e1, e2, d2] at FD
    have sc := scopeB_ok d7 d6
    unfold plainA at d5
    simp only [Bool.and_eq_true, decide_eq_true_eq, List.isEmpty_iff] at d5
    obtain ⟨p1, p2, p3, p4, p5⟩ := d5
    exact ⟨_, fd, d.qual, d.params, d.body, d.scope, He.glo_ok X G (k1 F (List.mem_of_getElem? e)), FD.kp, FD.bindsN fun kV doc pm an cdv ct us hl => bind_plain p1 p2 p3 p4 p5 (sc.nd.sublist (List.take_sublist ..)) hl, FD, sc, d6, d8, tab_of (k5 F (List.mem_of_getElem? e)) FD⟩
  · obtain ⟨l1, l2, e'⟩ : ∃ l1 l2, P.C = l1 ++ (x, d) :: l2 := by
      have m : (x, d) ∈ P.C := PySem.mem_of_lookup e
      exact List.append_of_mem m
    have q := k3 (x, d) (by rw [e']; simp)
    unfold conB at q
    split at q
    · rename_i v ev
      obtain ⟨u, r, rr⟩ := relD_ok q
      exact ⟨v, u, PySem.W.mg_of X G ev, r, rr⟩
    · cases q
  · have q := k4 p hp
    unfold subB at q
    simp only [Bool.and_eq_true, decide_eq_true_eq] at q
    obtain ⟨⟨q1, q2⟩, ⟨q3, q4⟩, q5, q6⟩ := q
    obtain ⟨x1, x2, x3, x4⟩ := He.exc_ok q3
    unfold excCB at q6
    simp only [Bool.and_eq_true, decide_eq_true_eq] at q6
    obtain ⟨y1, y2, y3, y4, y5, y6, y7⟩ := q6
    exact ⟨⟨He.glo_ok X G q1, x2, ⟨_, _, _, _, PySem.F.excBase_ValueError, x1⟩, x3, x4, He.exm_ok q4, ⟨He.eqO_ok y1, He.eqO_ok y2, x3, y3, He.eqO_ok y4, He.eqO_ok y5, y6, y7⟩⟩, He.glo_ok X G q2, q5⟩
/-- the law's def, from its answer -/
theorem lawAt {l : PySem.W.OpenLaw} {w : World} {k li : Nat} {fa : Addr} (X : K.In h) (G : h.Ns mainGlobals mg) (c : Says P fn K) (tE : ∀ p ∈ tabsOf P K, h.get? p.2 = some { cls := .none, data := .fields #[] }) (hf : fdsB P fn P.fns = true) {L : Fd} (hL : P.fns[li]? = some L) (hn : L.np = 1) {x : Str} (hN : L.N.take 1 = [x]) (hfa : mg L.name = some (.ref fa))
    (ans : ∀ ns : List Int, ns.length ≤ 63 → callF P (k + 1) li [.d (.list (ns.map .int))] = .ok (.d (.bool true), none)) : LamX.LawAtS l w K (L2.CX l.prog w) (3 * (k + 1)) 63 x mg fa h := by
  have pk := pgOk X G c hf
  obtain ⟨c1, c2⟩ := c
  unfold exB at c1
  simp only [Bool.and_eq_true, List.all_eq_true] at c1
  obtain ⟨d, ed, hd⟩ := fdsB_at hf hL
  unfold fdB at hd
  simp only [Bool.and_eq_true, decide_eq_true_eq] at hd
  obtain ⟨⟨⟨d1, d2⟩, d3, d4⟩, ⟨d5, d6⟩, d7, d8⟩ := hd
  obtain ⟨fd, FD⟩ := c2.def_ li ed
  have ea : He.fAd K d.at_ = He.ga K L.name := by rw [d1]; rfl
  have e1 : d.dvs K = [] := by unfold He.DefD.dvs; rw [List.isEmpty_iff.mp d3]; rfl
  have e2 : d.kws K = [] := by unfold He.DefD.kws; rw [List.isEmpty_iff.mp d4]; rfl
  rw [ea, e1, e2, d2] at FD
  have sc := scopeB_ok d7 d6
  unfold plainA at d5
  simp only [Bool.and_eq_true, decide_eq_true_eq, List.isEmpty_iff] at d5
  obtain ⟨p1, p2, p3, p4, p5⟩ := d5
  have ef := hfa.symm.trans (He.glo_ok X G (c1.1 L (List.mem_of_getElem? hL)))
  cases ef
  have hps : L.N.take L.np = [x] := by rw [hn]; exact hN
  have bA : ∀ (s : Shared) (u : Value), BindsTo s fd ⟨[u], []⟩ [(x, u)] := fun s u => by
    have q := FD.bindsA (fun kV doc pm an cdv ct us hl => bind_plain p1 p2 p3 p4 p5 (sc.nd.sublist (List.take_sublist ..)) hl) s [u] (by rw [hps]; rfl)
    rw [hps] at q
    exact q
  have k5 := c1.2.2.2.2.1
  have k6 := c1.2.2.2.2.2
  have FO : ∀ base : Heap, (∀ p ∈ tabsOf P K, GxR.TabB base mg p.1 p.2) → FnOk l.prog w K mg base (L2.CX l.prog w) (3 * (k + 1)) (He.ga K L.name) fd (L.N.take L.np) (SpF (wdOf P K (tabsOf P K)) L.np (callF P (k + 1) li)) := fun base tb =>
    fn_step (w := wdOf P K (tabsOf P K)) (prog := l.prog) (wo := w) (base := base) pk tb (fns_all pk tb k) hL FD sc d6 d8 (tab_of (k5 L (List.mem_of_getElem? hL)) FD)
  rw [hps] at FO
  refine ⟨fd, tabsOf P K, SpF (wdOf P K (tabsOf P K)) L.np (callF P (k + 1) li), tE, fun p m => (codeHd_of X (k6 p m)).2, fun p m => (codeHd_of X (k6 p m)).1, bA, fun H a ns hl _ hT hS => ?_, fun base _ _ tb => FO base fun p m => ⟨(tb p m).code, (tb p m).bm, (tb p m).gP⟩⟩
  rw [hn]
  have rs : ∀ G : Hp, RpAll K G (ns.map V.int) (ns.map PyData.int) := fun G => rpOfInts
  obtain ⟨G0, l0, r0, t0⟩ : ∃ G0 : Hp, Le G0 H ∧ SqL K G0 a (ns.map V.int) ∧ ∀ p ∈ tabsOf P K, G0 p.2 = none := by
    rcases hS with h | h
    · refine ⟨fun b => if b = a then H a else none, fun b o e => ?_, .inl ?_, fun p hp => ?_⟩
      · replace e : (if b = a then H a else none) = some o := e
        by_cases z : b = a
        · rw [if_pos z] at e; rw [z]; exact e
        · rw [if_neg z] at e; cases e
      · rcases h with h | ⟨o, h⟩
        · exact .inl (by show (if a = a then H a else none) = _; rw [if_pos rfl]; exact h)
        · exact .inr ⟨o, by show (if a = a then H a else none) = _; rw [if_pos rfl]; exact h⟩
      · show (if p.2 = a then H a else none) = none
        by_cases z : p.2 = a
        · have e := hT p hp
          rw [z] at e
          rcases h with h | ⟨o, h⟩ <;> rw [h] at e <;> cases e
        · rw [if_neg z]
    · exact ⟨fun _ => none, (fun b o e => by cases e), .inr h, fun _ _ => rfl⟩
  refine ⟨rfl, .non, [.d (.list (ns.map .int))], G0, fun _ => [], fun m r e => (by cases e), ⟨rfl, l0, fun i s e => ?_, (fun _ _ _ _ m => nomatch m), (fun _ _ m => nomatch m), (fun _ _ m => nomatch m), fun p m => ⟨⟨#[], hT p m, trivial⟩, t0 p m⟩⟩, ?_⟩
  · cases i with
    | zero => cases e; exact ⟨_, rfl, .lst r0 (rs _)⟩
    | succ i => cases e
  · show Post _ _ _ _ (callF P (k + 1) li [.d (.list (ns.map .int))]) _ _
    rw [ans ns hl]
    intro H' G' F' s v st
    obtain ⟨v', e', r⟩ := st.slot 0 _ rfl
    cases e'
    exact r.bl_inv
end
end N
namespace K28
open PySem N
def b_common_divisor : List Cm := [
  .whl (.v 1) [.par2 0 1 (.v 1) (.bin .mod (.v 0) (.v 1))],
  .fgt [1],
  .ret (.blt .abs [(.v 0)])]
def b_fraction : List Cm := [
  .ifs (.cmp .lt (.v 1) (.int 0)) [.par2 0 1 (.neg (.v 0)) (.neg (.v 1))] [],
  .asg (.n 2) (.call 0 [(.v 0), (.v 1)]),
  .ret (.tup [(.bin .fdiv (.v 0) (.v 2)), (.bin .fdiv (.v 1) (.v 2))])]
def b_plus : List Cm := [
  .ret (.call 1 [(.bin .add (.bin .mul (.ix (.v 0) (.int 0)) (.ix (.v 1) (.int 1))) (.bin .mul (.ix (.v 1) (.int 0)) (.ix (.v 0) (.int 1)))), (.bin .mul (.ix (.v 0) (.int 1)) (.ix (.v 1) (.int 1)))])]
def b_minus : List Cm := [
  .ret (.call 1 [(.bin .sub (.bin .mul (.ix (.v 0) (.int 0)) (.ix (.v 1) (.int 1))) (.bin .mul (.ix (.v 1) (.int 0)) (.ix (.v 0) (.int 1)))), (.bin .mul (.ix (.v 0) (.int 1)) (.ix (.v 1) (.int 1)))])]
def b_times : List Cm := [
  .ret (.call 1 [(.bin .mul (.ix (.v 0) (.int 0)) (.ix (.v 1) (.int 0))), (.bin .mul (.ix (.v 0) (.int 1)) (.ix (.v 1) (.int 1)))])]
def b_over : List Cm := [
  .ret (.call 1 [(.bin .mul (.ix (.v 0) (.int 0)) (.ix (.v 1) (.int 1))), (.bin .mul (.ix (.v 0) (.int 1)) (.ix (.v 1) (.int 0)))])]
def b_is_less : List Cm := [
  .ret (.cmp .lt (.bin .mul (.ix (.v 0) (.int 0)) (.ix (.v 1) (.int 1))) (.bin .mul (.ix (.v 1) (.int 0)) (.ix (.v 0) (.int 1))))]
def b_sum_of : List Cm := [
  .asg (.n 1) (.tup [(.int 0), (.int 1)]),
  .fgt [2],
  .for (.n 2) (.of (.v 0)) [.asg (.n 1) (.call 2 [(.v 1), (.v 2)]), .fgt [2]],
  .ret (.v 1)]
def b_is_odds : List Cm := [
  .ifs (.bop false (.not (.isi (.v 0) .tuple)) (.cmp .lt (.blt .len [(.v 0)]) (.int 2))) [.ret (.bl false)] [],
  .fgt [1],
  .for (.n 1) (.of (.v 0)) [.ifs (.bop false (.not (.isi (.v 1) .tuple)) (.bop false (.cmp .ne (.blt .len [(.v 1)]) (.int 2)) (.not (.gq true (.isi (.v 2) .int) (.n 2) (.of (.v 1)) .no [2])))) [.ret (.bl false)] [], .ifs (.bop false (.cmp .le (.ix (.v 1) (.int 1)) (.int 0)) (.bop false (.cmp .le (.ix (.v 1) (.int 0)) (.ix (.v 1) (.int 1))) (.cmp .ne (.call 1 [(.ix (.v 1) (.int 0)), (.ix (.v 1) (.int 1))]) (.v 1)))) [.ret (.bl false)] [], .fgt [1]],
  .ret (.bl true)]
def b_round_sum : List Cm := [
  .ret (.call 7 [(.lc (.call 5 [(.tup [(.int 1), (.int 1)]), (.v 1)]) (.n 1) (.of (.v 0)) .no [1])])]
def b_fair_chances : List Cm := [
  .asg (.n 1) (.call 9 [(.v 0)]),
  .ret (.lc (.call 5 [(.call 5 [(.tup [(.int 1), (.int 1)]), (.v 2)]), (.v 1)]) (.n 2) (.of (.v 0)) .no [2])]
def b_fair_odds : List Cm := [
  .ret (.blt .tuple [(.lc (.call 5 [(.tup [(.int 1), (.int 1)]), (.v 1)]) (.n 1) (.of (.v 0)) .no [1])])]
def b_gain_of : List Cm := [
  .ret (.call 3 [(.tup [(.int 1), (.int 1)]), (.call 5 [(.tup [(.int 1), (.int 1)]), (.call 9 [(.v 0)])])])]
def b_best_odds : List Cm := [
  .own 1 (.lst []),
  .fgt [2, 3, 4],
  .for (.n 2) (.range1 (.blt .len [(.ix (.v 0) (.int 0))])) [.asg (.n 3) (.int 0), .fgt [4], .for (.n 4) (.range2 (.int 1) (.blt .len [(.v 0)])) [.ifs (.call 6 [(.ix (.ix (.v 0) (.v 3)) (.v 2)), (.ix (.ix (.v 0) (.v 4)) (.v 2))]) [.asg (.n 3) (.v 4)] [], .fgt [4]], .app 1 (.tup [(.ix (.ix (.v 0) (.v 3)) (.v 2)), (.v 3)]), .fgt [2, 3, 4]],
  .ret (.fz 1)]
def b_sure_stakes : List Cm := [
  .asg (.n 2) (.lc (.v 5) (.t [(.n 5), (.n 6)]) (.of (.call 13 [(.v 0)])) .no [5, 6]),
  .asg (.n 3) (.call 9 [(.v 2)]),
  .ifs (.not (.call 6 [(.v 3), (.tup [(.int 1), (.int 1)])])) [.ret .non] [],
  .asg (.n 4) (.call 5 [(.tup [(.v 1), (.int 1)]), (.v 3)]),
  .ret (.tup [(.lc (.call 5 [(.v 4), (.v 5)]) (.n 5) (.of (.v 2)) .no [5]), (.v 4)])]
def b_worst_result : List Cm := [
  .asg (.n 2) (.call 7 [(.v 1)]),
  .asg (.n 3) .non,
  .fgt [4, 5, 6, 7],
  .for (.t [(.n 4), (.t [(.n 6), (.n 7)])]) (.enumz (.v 0) (.v 1)) [.asg (.n 5) (.call 3 [(.call 4 [(.v 6), (.v 7)]), (.v 2)]), .ifs (.bop false (.cmp .is (.v 3) .non) (.call 6 [(.v 5), (.ix (.v 3) (.int 0))])) [.asg (.n 3) (.tup [(.v 5), (.v 4)])] [], .fgt [4, 5, 6, 7]],
  .ret (.v 3)]
def b_accumulator : List Cm := [
  .asg (.n 1) (.tup [(.int 1), (.int 1)]),
  .fgt [2],
  .for (.n 2) (.of (.v 0)) [.asg (.n 1) (.call 4 [(.v 1), (.v 2)]), .fgt [2]],
  .ret (.v 1)]
def b_mean_back : List Cm := [
  .ret (.lc (.call 4 [(.v 2), (.v 3)]) (.t [(.n 2), (.n 3)]) (.zip (.v 0) (.v 1)) .no [2, 3])]
def b_all_doubles : List Cm := [
  .asg (.n 2) (.tup [(.int 0), (.int 1)]),
  .fgt [3, 4],
  .for (.n 3) (.range1 (.blt .len [(.v 0)])) [.fgt [4], .for (.n 4) (.range1 (.v 3)) [.ifs (.bop true (.ix (.v 1) (.v 3)) (.ix (.v 1) (.v 4))) [.asg (.n 2) (.call 2 [(.v 2), (.call 4 [(.ix (.v 0) (.v 3)), (.ix (.v 0) (.v 4))])])] [], .fgt [4]], .fgt [3, 4]],
  .ret (.v 2)]
def b_as_ratio : List Cm := [
  .ret (.call 1 [(.bin .sub (.ix (.v 0) (.int 0)) (.ix (.v 0) (.int 1))), (.ix (.v 0) (.int 1))])]
def b_from_ratio : List Cm := [
  .ret (.call 2 [(.v 0), (.tup [(.int 1), (.int 1)])])]
def b_each_way : List Cm := [
  .asg (.n 5) (.call 5 [(.v 2), (.tup [(.int 2), (.int 1)])]),
  .asg (.n 6) (.tup [(.int 0), (.int 1)]),
  .ifs (.v 3) [.asg (.n 6) (.call 2 [(.v 6), (.call 4 [(.v 5), (.v 0)])])] [],
  .ifs (.v 4) [.asg (.n 6) (.call 2 [(.v 6), (.call 4 [(.v 5), (.call 2 [(.tup [(.int 1), (.int 1)]), (.call 4 [(.call 3 [(.v 0), (.tup [(.int 1), (.int 1)])]), (.v 1)])])])])] [],
  .ret (.v 6)]
def b__law_draws : List Cm := [
  .asg (.n 3) (.v 0),
  .ifs (.cmp .lt (.v 3) (.int 0)) [.asg (.n 3) (.bin .sub (.bin .sub (.int 0) (.int 1)) (.v 3))] [],
  .own 4 (.lst []),
  .ifs (.cmp .ge (.v 3) (.bin .pow (.int 10) (.int 18))) [.fgt [5], .for (.n 5) (.range1 (.v 2)) [.app 4 (.bin .mod (.blt .int [(.v 3)]) (.v 1)), .asg (.n 3) (.bin .fdiv (.v 3) (.v 1)), .fgt [5]], .fgt [3], .ret (.fz 4)] [],
  .fgt [5],
  .fgt [5, 6],
  .for (.n 5) (.range1 (.v 2)) [.asg (.n 6) (.bin .mod (.blt .int [(.bin .mul (.bin .add (.bin .add (.v 3) (.bin .mul (.int 7) (.v 5))) (.int 1)) (.int 48271))]) (.int 2147483647)), .asg (.n 6) (.bin .mod (.blt .int [(.bin .add (.bin .mul (.v 6) (.int 69621)) (.bin .mul (.int 31) (.v 5)))]) (.int 2147483629)), .app 4 (.bin .mod (.blt .int [(.bin .fdiv (.v 6) (.int 7))]) (.v 1)), .fgt [5, 6]],
  .ret (.fz 4)]
def b__law_box : List Cm := [
  .asg (.n 1) (.lst []),
  .fgt [2],
  .for (.n 2) (.of (.v 0)) [.asg (.n 1) (.bin .add (.v 1) (.call 22 [(.v 2), (.int 1000003), (.int 6)])), .fgt [2]],
  .ifs (.cmp .eq (.blt .len [(.v 1)]) (.int 0)) [.asg (.n 1) (.lst [(.int 11), (.int 5), (.int 2), (.int 7), (.int 31), (.int 101), (.int 997)])] [],
  .retD ["row", "at"] [(.v 1), (.int 0)]]
def b__law_next : List Cm := [
  .asg (.n 2) (.ixP 0 (.str "at")),
  .setP 0 (.str "at") (.bin .add (.v 2) (.int 1)),
  .asg (.n 3) (.ix (.ixP 0 (.str "row")) (.bin .mod (.v 2) (.blt .len [(.ixP 0 (.str "row"))]))),
  .ret (.bin .mod (.blt .int [(.bin .add (.v 3) (.bin .mul (.int 7919) (.bin .fdiv (.v 2) (.blt .len [(.ixP 0 (.str "row"))]))))]) (.v 1))]
def b__law_common : List Cm := [
  .whl (.cmp .ne (.v 1) (.int 0)) [.par2 0 1 (.v 1) (.bin .mod (.v 0) (.v 1))],
  .fgt [1],
  .ret (.blt .abs [(.v 0)])]
def b__law_fraction : List Cm := [
  .asg (.n 2) (.call 25 [(.v 0), (.v 1)]),
  .asg (.n 3) (.ite (.cmp .gt (.v 1) (.int 0)) (.int 1) (.neg (.int 1))),
  .ret (.tup [(.bin .fdiv (.bin .mul (.v 3) (.v 0)) (.v 2)), (.bin .fdiv (.bin .mul (.v 3) (.v 1)) (.v 2))])]
def b__law_plus : List Cm := [
  .ret (.call 26 [(.bin .add (.bin .mul (.ix (.v 0) (.int 0)) (.ix (.v 1) (.int 1))) (.bin .mul (.ix (.v 1) (.int 0)) (.ix (.v 0) (.int 1)))), (.bin .mul (.ix (.v 0) (.int 1)) (.ix (.v 1) (.int 1)))])]
def b__law_times : List Cm := [
  .ret (.call 26 [(.bin .mul (.ix (.v 0) (.int 0)) (.ix (.v 1) (.int 0))), (.bin .mul (.ix (.v 0) (.int 1)) (.ix (.v 1) (.int 1)))])]
def b__law_sum : List Cm := [
  .asg (.n 1) (.tup [(.int 0), (.int 1)]),
  .fgt [2],
  .for (.n 2) (.of (.v 0)) [.asg (.n 1) (.call 27 [(.v 1), (.v 2)]), .fgt [2]],
  .ret (.v 1)]
def b__law_turned : List Cm := [
  .ret (.tup [(.ix (.v 0) (.int 1)), (.ix (.v 0) (.int 0))])]
def b__law_less : List Cm := [
  .ret (.cmp .lt (.bin .mul (.ix (.v 0) (.int 0)) (.ix (.v 1) (.int 1))) (.bin .mul (.ix (.v 1) (.int 0)) (.ix (.v 0) (.int 1))))]
def b__law_staked : List Cm := [
  .asg (.n 3) (.blt .len [(.v 1)]),
  .asg (.n 4) (.lc (.cmp .eq (.callO 24 0 [(.int 2)]) (.int 0)) (.n 6) (.range1 (.v 3)) .no [6]),
  .asg (.n 5) (.lst []),
  .fgt [6],
  .for (.n 6) (.range1 (.v 3)) [.asg (.n 5) (.bin .add (.v 5) (.lc (.call 28 [(.ix (.v 1) (.v 13)), (.ix (.v 1) (.v 6))]) (.n 13) (.range1 (.v 6)) (.so (.bop true (.ix (.v 4) (.v 13)) (.ix (.v 4) (.v 6)))) [13])), .fgt [6]],
  .ifs (.cmp .ne (.call 18 [(.v 1), (.v 4)]) (.call 29 [(.v 5)])) [.ret (.bl false)] [],
  .asg (.n 7) (.call 27 [(.ix (.v 1) (.int 0)), (.tup [(.neg (.int 1)), (.int 1)])]),
  .ifs (.bop false (.cmp .ne (.call 19 [(.ix (.v 1) (.int 0))]) (.v 7)) (.cmp .ne (.call 20 [(.v 7)]) (.ix (.v 1) (.int 0)))) [.ret (.bl false)] [],
  .asg (.n 8) (.call 26 [(.int 1), (.bin .add (.int 1) (.callO 24 0 [(.int 5)]))]),
  .asg (.n 9) (.call 26 [(.v 2), (.int 2)]),
  .asg (.n 10) (.call 29 [(.bin .add (.bin .mul (.lst [(.call 28 [(.v 9), (.ix (.v 1) (.int 0))])]) (.blt .int [(.ix (.v 4) (.int 0))])) (.bin .mul (.lst [(.call 28 [(.v 9), (.call 27 [(.tup [(.int 1), (.int 1)]), (.call 28 [(.v 7), (.v 8)])])])]) (.blt .int [(.ix (.v 4) (.int 1))])))]),
  .ifs (.cmp .ne (.call 21 [(.ix (.v 1) (.int 0)), (.v 8), (.tup [(.v 2), (.int 1)]), (.ix (.v 4) (.int 0)), (.ix (.v 4) (.int 1))]) (.v 10)) [.ret (.bl false)] [],
  .asg (.n 11) (.lst [(.tup [(.tup [(.int 2), (.int 1)]), (.tup [(.int 3), (.int 2)])]), (.tup [(.tup [(.int 2), (.int 1)])]), (.tup [(.tup [(.int 1), (.int 1)]), (.tup [(.int 2), (.int 1)])]), (.tup [(.tup [(.int 4), (.int 2)]), (.tup [(.int 3), (.int 1)])]), (.tup [(.tup [(.int 2), (.int 0)]), (.tup [(.int 3), (.int 1)])]), (.lst [(.tup [(.int 2), (.int 1)]), (.tup [(.int 3), (.int 1)])]), (.tup [(.tup [(.int 2), (.int 1)]), (.tup [(.bl true)])]), .non]),
  .ret (.cmp .eq (.lc (.call 8 [(.v 12)]) (.n 12) (.of (.v 11)) .no [12]) (.bin .add (.lst [(.bl true)]) (.bin .mul (.lst [(.bl false)]) (.int 7))))]
def b_law : List Cm := [
  .ownC 1 23 [(.v 0)],
  .asg (.n 2) (.bin .add (.int 2) (.callO 24 1 [(.int 3)])),
  .own 3 (.lst []),
  .fgt [4, 19, 20, 22],
  .for (.n 4) (.range1 (.bin .add (.int 1) (.callO 24 1 [(.int 3)]))) [.own 19 (.lst []), .fgt [20, 22], .for (.n 20) (.range1 (.v 2)) [.asg (.n 22) (.bin .add (.int 1) (.callO 24 1 [(.int 8)])), .app 19 (.call 26 [(.bin .add (.bin .add (.v 22) (.int 1)) (.callO 24 1 [(.int 40)])), (.v 22)]), .fgt [20, 22]], .app 3 (.blt .tuple [(.fz 19)]), .fgt [4, 19, 20, 22]],
  .asg (.n 5) (.ixP 3 (.int 0)),
  .asg (.n 6) (.call 29 [(.lc (.call 30 [(.v 18)]) (.n 18) (.of (.v 5)) .no [18])]),
  .asg (.n 7) (.lc (.call 28 [(.call 30 [(.v 18)]), (.call 30 [(.v 6)])]) (.n 18) (.of (.v 5)) .no [18]),
  .asg (.n 8) (.call 10 [(.v 5)]),
  .ifs (.bop false (.cmp .isnot (.call 8 [(.v 5)]) (.bl true)) (.bop false (.cmp .ne (.call 9 [(.v 5)]) (.v 6)) (.bop false (.not (.isi (.v 8) .list)) (.bop false (.cmp .ne (.v 8) (.v 7)) (.cmp .ne (.call 29 [(.v 7)]) (.tup [(.int 1), (.int 1)])))))) [.ret (.bl false)] [],
  .ifs (.bop false (.cmp .ne (.call 11 [(.v 7)]) (.blt .tuple [(.lc (.call 30 [(.v 18)]) (.n 18) (.of (.v 7)) .no [18])])) (.cmp .ne (.call 12 [(.v 5)]) (.call 27 [(.tup [(.int 1), (.int 1)]), (.tup [(.neg (.ix (.v 6) (.int 1))), (.ix (.v 6) (.int 0))])]))) [.ret (.bl false)] [],
  .own 9 (.lst []),
  .fgt [4, 10, 21],
  .for (.n 4) (.range1 (.v 2)) [.asg (.n 21) (.lc (.ix (.v 25) (.v 4)) (.n 25) (.of (.fz 3)) .no [25]), .asg (.n 10) (.ix (.lc (.v 20) (.n 20) (.range1 (.blt .len [(.v 21)])) (.so (.not (.blt .any [(.lc (.call 31 [(.ix (.v 21) (.v 20)), (.v 27)]) (.n 27) (.of (.v 21)) .no [27])]))) [20]) (.int 0)), .app 9 (.tup [(.ix (.v 21) (.v 10)), (.v 10)]), .fgt [4, 10, 21]],
  .ifs (.cmp .ne (.call 13 [(.fz 3)]) (.fz 9)) [.ret (.bl false)] [],
  .asg (.n 10) (.lc (.v 18) (.t [(.n 18), (.n 26)]) (.of (.fz 9)) .no [18, 26]),
  .asg (.n 11) (.call 29 [(.lc (.call 30 [(.v 18)]) (.n 18) (.of (.v 10)) .no [18])]),
  .asg (.n 12) (.bin .add (.int 1) (.callO 24 1 [(.int 100)])),
  .asg (.n 8) (.call 14 [(.fz 3), (.v 12)]),
  .ifs (.cmp .ne (.cmp .isnot (.v 8) .non) (.call 31 [(.v 11), (.tup [(.int 1), (.int 1)])])) [.ret (.bl false)] [],
  .ifs (.cmp .isnot (.v 8) .non) [.asg (.t [(.n 23), (.n 24)]) (.v 8), .ifs (.bop false (.cmp .ne (.call 29 [(.v 23)]) (.tup [(.v 12), (.int 1)])) (.bop false (.blt .any [(.lc (.cmp .ne (.call 28 [(.ix (.v 10) (.v 4)), (.ix (.v 23) (.v 4))]) (.v 24)) (.n 4) (.range1 (.v 2)) .no [4])]) (.not (.call 31 [(.tup [(.v 12), (.int 1)]), (.v 24)])))) [.ret (.bl false)] []] [],
  .fgt [23, 24],
  .asg (.n 13) (.lc (.call 26 [(.callO 24 1 [(.int 20)]), (.bin .add (.int 1) (.callO 24 1 [(.int 4)]))]) (.n 4) (.range1 (.v 2)) .no [4]),
  .asg (.n 14) (.call 29 [(.v 13)]),
  .asg (.n 15) (.lc (.call 27 [(.call 28 [(.ix (.v 5) (.v 4)), (.ix (.v 13) (.v 4))]), (.tup [(.neg (.ix (.v 14) (.int 0))), (.ix (.v 14) (.int 1))])]) (.n 4) (.range1 (.v 2)) .no [4]),
  .asg (.n 16) (.ix (.lc (.v 4) (.n 4) (.range1 (.v 2)) (.so (.not (.blt .any [(.lc (.call 31 [(.v 27), (.ix (.v 15) (.v 4))]) (.n 27) (.of (.v 15)) .no [27])]))) [4]) (.int 0)),
  .ifs (.cmp .ne (.call 15 [(.v 5), (.v 13)]) (.tup [(.ix (.v 15) (.v 16)), (.v 16)])) [.ret (.bl false)] [],
  .asg (.n 17) (.tup [(.int 1), (.int 1)]),
  .fgt [18],
  .for (.n 18) (.of (.v 5)) [.asg (.n 17) (.call 28 [(.v 17), (.v 18)]), .fgt [18]],
  .ifs (.bop false (.cmp .ne (.call 16 [(.v 5)]) (.v 17)) (.bop false (.cmp .ne (.call 16 [(.lst [])]) (.tup [(.int 1), (.int 1)])) (.cmp .ne (.call 17 [(.v 5), (.v 7)]) (.lc (.call 28 [(.ix (.v 5) (.v 4)), (.ix (.v 7) (.v 4))]) (.n 4) (.range1 (.v 2)) .no [4])))) [.ret (.bl false)] [],
  .ifs (.bop false (.cmp .ne (.spc .lset (.call 17 [(.v 5), (.v 7)])) (.int 1)) (.cmp .ne (.ix (.call 17 [(.v 5), (.v 7)]) (.int 0)) (.call 30 [(.v 6)]))) [.ret (.bl false)] [],
  .ret (.callO 32 1 [(.v 5), (.v 12)])]
def fns : List Fd := [
  ⟨"common_divisor", 2, ["one", "two"], false, none, b_common_divisor⟩,
  ⟨"fraction", 2, ["above", "below", "common"], false, none, b_fraction⟩,
  ⟨"plus", 2, ["one", "two"], false, none, b_plus⟩,
  ⟨"minus", 2, ["one", "two"], false, none, b_minus⟩,
  ⟨"times", 2, ["one", "two"], false, none, b_times⟩,
  ⟨"over", 2, ["one", "two"], false, none, b_over⟩,
  ⟨"is_less", 2, ["one", "two"], false, none, b_is_less⟩,
  ⟨"sum_of", 1, ["fractions", "found", "one"], false, none, b_sum_of⟩,
  ⟨"is_odds", 1, ["value", "one", "part"], false, some 0, b_is_odds⟩,
  ⟨"round_sum", 1, ["odds", "one"], false, none, b_round_sum⟩,
  ⟨"fair_chances", 1, ["odds", "whole", "one"], false, none, b_fair_chances⟩,
  ⟨"fair_odds", 1, ["chances", "chance"], false, none, b_fair_odds⟩,
  ⟨"gain_of", 1, ["odds"], false, none, b_gain_of⟩,
  ⟨"best_odds", 1, ["books", "found", "outcome", "best", "number"], false, none, b_best_odds⟩,
  ⟨"sure_stakes", 2, ["books", "whole", "odds", "total", "back", "one", "_"], false, none, b_sure_stakes⟩,
  ⟨"worst_result", 2, ["odds", "stakes", "paid", "best", "number", "left", "one", "stake"], false, none, b_worst_result⟩,
  ⟨"accumulator", 1, ["parts", "found", "one"], false, none, b_accumulator⟩,
  ⟨"mean_back", 2, ["odds", "chances", "one", "chance"], false, none, b_mean_back⟩,
  ⟨"all_doubles", 2, ["parts", "won", "found", "late", "early"], false, none, b_all_doubles⟩,
  ⟨"as_ratio", 1, ["odds"], false, none, b_as_ratio⟩,
  ⟨"from_ratio", 1, ["ratio"], false, none, b_from_ratio⟩,
  ⟨"each_way", 5, ["odds", "part", "stake", "won", "placed", "half", "found"], false, none, b_each_way⟩,
  ⟨"_law_draws", 3, ["cell", "modulus", "count", "number", "row", "k", "mixed"], false, none, b__law_draws⟩,
  ⟨"_law_box", 1, ["script", "row", "cell"], false, none, b__law_box⟩,
  ⟨"_law_next", 2, ["box", "modulus", "at", "number"], true, none, b__law_next⟩,
  ⟨"_law_common", 2, ["one", "two"], false, none, b__law_common⟩,
  ⟨"_law_fraction", 2, ["one", "two", "common", "sign"], false, none, b__law_fraction⟩,
  ⟨"_law_plus", 2, ["one", "two"], false, none, b__law_plus⟩,
  ⟨"_law_times", 2, ["one", "two"], false, none, b__law_times⟩,
  ⟨"_law_sum", 1, ["rows", "found", "one"], false, none, b__law_sum⟩,
  ⟨"_law_turned", 1, ["one"], false, none, b__law_turned⟩,
  ⟨"_law_less", 2, ["one", "two"], false, none, b__law_less⟩,
  ⟨"_law_staked", 3, ["box", "odds", "stake", "many", "won", "doubles", "k", "ratio", "part", "half", "back", "values", "value", "j"], true, none, b__law_staked⟩,
  ⟨"law", 1, ["script", "box", "many", "books", "k", "odds", "whole", "fair", "told", "due", "best", "total", "stake", "drawn", "paid", "left", "worst", "product", "one", "row", "j", "rows", "below", "stakes", "back", "book", "number", "other"], false, none, b_law⟩]
def P : Pg := ⟨fns, [], []⟩
end K28
namespace K28
open PySem N L2
def top (i : Nat) : Stmt := PySem.Challenge.pw_leaguestold_k28_odds_of_bookmakers.main.body.getD i (.Pass ⟨0, 0, 0, 0⟩)
def mkD (x : Str) (i : Nat) : He.DefD := ⟨(x, none), x, x, defArgs (top i), defBody (top i), defScope (top i), [], []⟩
def fn : List He.DefD := [mkD "common_divisor" 1, mkD "fraction" 2, mkD "plus" 3, mkD "minus" 4, mkD "times" 5, mkD "over" 6, mkD "is_less" 7, mkD "sum_of" 8, mkD "is_odds" 10, mkD "round_sum" 11, mkD "fair_chances" 12, mkD "fair_odds" 13, mkD "gain_of" 14, mkD "best_odds" 15, mkD "sure_stakes" 16, mkD "worst_result" 17, mkD "accumulator" 18, mkD "mean_back" 19, mkD "all_doubles" 20, mkD "as_ratio" 21, mkD "from_ratio" 22, mkD "each_way" 23, mkD "_law_draws" 25, mkD "_law_box" 26, mkD "_law_next" 27, mkD "_law_common" 28, mkD "_law_fraction" 29, mkD "_law_plus" 30, mkD "_law_times" 31, mkD "_law_sum" 32, mkD "_law_turned" 33, mkD "_law_less" 34, mkD "_law_staked" 35, mkD "law" 36]
def loose : List PySem.Str := [("common_divisor" : PySem.Str), ("fraction" : PySem.Str), ("plus" : PySem.Str), ("minus" : PySem.Str), ("times" : PySem.Str), ("over" : PySem.Str), ("is_less" : PySem.Str), ("sum_of" : PySem.Str), ("is_odds" : PySem.Str), ("round_sum" : PySem.Str), ("fair_chances" : PySem.Str), ("fair_odds" : PySem.Str), ("gain_of" : PySem.Str), ("best_odds" : PySem.Str), ("sure_stakes" : PySem.Str), ("worst_result" : PySem.Str), ("accumulator" : PySem.Str), ("mean_back" : PySem.Str), ("all_doubles" : PySem.Str), ("as_ratio" : PySem.Str), ("from_ratio" : PySem.Str), ("each_way" : PySem.Str), ("_law_draws" : PySem.Str), ("_law_box" : PySem.Str), ("_law_next" : PySem.Str), ("_law_common" : PySem.Str), ("_law_fraction" : PySem.Str), ("_law_plus" : PySem.Str), ("_law_times" : PySem.Str), ("_law_sum" : PySem.Str), ("_law_turned" : PySem.Str), ("_law_less" : PySem.Str), ("_law_staked" : PySem.Str)]
abbrev R : PySem.W.OpenRow := PySem.W.OpenLaw.row PySem.Challenge.rw_leaguestold_k28_odds_of_bookmakers
abbrev hk : PySem.W.Hook := hookN 4 P fn
def ob (s : PySem.W.SharedT) : Bool × He.AlD := obsN 4 P fn (HandSHeadRun.getT s)
theorem ob_eq (s : PySem.W.SharedT) : ob s = hk.obs s.abs := obsN_eq (HandSHeadRun.getT_eq s)
theorem chk : fdsB P fn P.fns = true := by kernel_rfl
theorem headrun (w : World) : HandSHeadRun.RunEq R (PySem.W.view R.prog [36]) hk ob 4000 loose w := by
  intro os
  kernel_rfl
end K28
open PySem PySem.W PySem.Calls PyProof.Rows
theorem k28_end (ans : ∀ ns : List Int, ns.length ≤ 63 → N.callF K28.P 20 33 [.d (.list (ns.map .int))] = .ok (.d (.bool true), none)) : PySem.Challenge.rw_leaguestold_k28_odds_of_bookmakers.Holds := by
  w_on; o_law
  refine HandSHeadRun.head_any (r := OpenLaw.row PySem.Challenge.rw_leaguestold_k28_odds_of_bookmakers) (q := view (OpenLaw.row PySem.Challenge.rw_leaguestold_k28_odds_of_bookmakers).prog [36]) (H := K28.hk) (ob := K28.ob) (M := 4000) (loose := K28.loose) (d := HandSHeadRun.topDef (OpenLaw.row PySem.Challenge.rw_leaguestold_k28_odds_of_bookmakers).prog 36) (kwd := []) K28.ob_eq
    (by kernel_rfl) (fun s => by kernel_rfl) K28.headrun (by kernel_rfl) (by kernel_rfl) (by kernel_rfl) (by rfl) (by first | assumption | decide +kernel) (by decide +kernel) ⟨rfl, rfl, rfl, rfl, rfl, by decide +kernel⟩ ?hw ?hc
  case hw => w_witness2
  case hc =>
    refine LamX.walk_ofTsE (l := PySem.Challenge.rw_leaguestold_k28_odds_of_bookmakers) (n := 63) (k := 3 * (19 + 1)) (x := "script") (CX := fun w => L2.CX PySem.Challenge.rw_leaguestold_k28_odds_of_bookmakers.prog w) rfl (by decide) (by kernel_rfl) ⟨rfl, by decide, by decide⟩ ?F ?X
    case F =>
      intro w mg fa h Y G hmg0
      obtain ⟨K, KX, c, t⟩ := Y
      exact ⟨K, KX, N.lawAt (li := 33) KX G c t K28.chk (L := K28.P.fns.getD 33 ⟨"", 0, [], false, none, []⟩) (by kernel_rfl) (by kernel_rfl) (by kernel_rfl) hmg0 ans⟩
    case X => exact fun w H s e s' h => by obtain ⟨a, B, H', cls, d, _, _, _, _, _, _, _, hf⟩ := h; exact hf
/-! N20: rows for working out what a def computes; the draws that every law has. -/
namespace N
open PySem
section
variable {C : List (Str × D)} {sub : List (Str × Str)} {fn : Fns} {σ : En} {i j f : Nat} {a b c d : Ex} {es : List Ex} {o o1 o2 : BOp} {q q1 q2 : COp}
theorem x_v : (sm C fn (.v i)).v σ = match σ[i]? with | some (.d x) => .ok (x, σ) | _ => .bad := rfl
theorem x_fz : (sm C fn (.fz i)).v σ = match σ[i]? with | some (.d x) => .ok (x, σ) | some (.m false x) => .ok (x.toD, σ.set i (.d x.toD)) | _ => .bad := rfl
theorem x_int {n : Int} : (sm C fn (.int n)).v σ = .ok (.int n, σ) := rfl
theorem x_str {x : Str} : (sm C fn (.str x)).v σ = .ok (.str x, σ) := rfl
theorem x_bl {x : Bool} : (sm C fn (.bl x)).v σ = .ok (.bool x, σ) := rfl
theorem x_non : (sm C fn .non).v σ = .ok (.none, σ) := rfl
theorem x_con {x : Str} : (sm C fn (.con x)).v σ = (ofO (C.lookup x)).bind fun d => .ok (d, σ) := rfl
theorem x_neg : (sm C fn (.neg a)).v σ = ((sm C fn a).v σ).bind fun p => match p.1 with | .int i => .ok (.int (-i), p.2) | _ => .bad := rfl
theorem x_bin : (sm C fn (.bin o a b)).v σ = ((sm C fn a).v σ).bind fun p => ((sm C fn b).v p.2).bind fun q => (ofO (binD o p.1 q.1)).bind fun z => .ok (z, q.2) := rfl
theorem x_cmp : (sm C fn (.cmp q a b)).v σ = ((sm C fn a).v σ).bind fun p => ((sm C fn b).v p.2).bind fun r => (ofO (cmpD q p.1 r.1)).bind fun z => .ok (.bool z, r.2) := rfl
theorem x_bop {k : Bool} : (sm C fn (.bop k a b)).v σ = ((sm C fn a).v σ).bind fun p => (ofO (trD p.1)).bind fun t => if t = k then (sm C fn b).v p.2 else .ok p := rfl
theorem x_not : (sm C fn (.not a)).v σ = ((sm C fn a).v σ).bind fun p => (ofO (trD p.1)).bind fun t => .ok (.bool (!t), p.2) := rfl
theorem x_ite : (sm C fn (.ite c a b)).v σ = ((sm C fn c).t σ).bind fun p => match p.1 with | true => (sm C fn a).v p.2 | false => (sm C fn b).v p.2 := rfl
theorem x_ix : (sm C fn (.ix a b)).v σ = ((sm C fn a).v σ).bind fun p => ((sm C fn b).v p.2).bind fun q => (ofO (idxD p.1 q.1)).bind fun z => .ok (z, q.2) := rfl
theorem x_tup : (sm C fn (.tup es)).v σ = (sms C fn es σ).bind fun p => if p.1.length ≤ LINE then .ok (.tuple p.1, p.2) else .bad := rfl
theorem x_lst : (sm C fn (.lst es)).v σ = (sms C fn es σ).bind fun p => if p.1.length ≤ LINE then .ok (.list p.1, p.2) else .bad := rfl
theorem x_call : (sm C fn (.call f es)).v σ = (sms C fn es σ).bind fun p => (fn f (p.1.map .d)).bind fun r => (ofO (datO r.1)).bind fun z => .ok (z, p.2) := rfl
theorem x_callO : (sm C fn (.callO f j es)).v σ = match σ[j]? with
    | some (.m _ _) => (sms C fn es σ).bind fun p => match p.2[j]? with
      | some (.m q m) => (fn f (.m m :: p.1.map .d)).bind fun r => match r.2 with
        | some m' => (ofO (datO r.1)).bind fun z => .ok (z, p.2.set j (.m q m'))
        | none => .bad
      | _ => .bad
    | _ => .bad := rfl
theorem x_blt {g : Blt} : (sm C fn (.blt g es)).v σ = (sms C fn es σ).bind fun p => (ofO (bltD g p.1)).bind fun z => .ok (z, p.2) := rfl
theorem x_isi {t : Tk} : (sm C fn (.isi a t)).v σ = ((sm C fn a).v σ).bind fun p => .ok (.bool (isiD p.1 t), p.2) := rfl
theorem x_ixP : (sm C fn (.ixP j a)).v σ = match σ[j]? with
    | some (.m _ m0) => ((sm C fn a).v σ).bind fun p => match p.2[j]? with
      | some (.m _ m) => if muKind m = muKind m0 then (ofO (muIx m p.1)).bind fun z => .ok (z, p.2) else .bad
      | _ => .bad
    | _ => .bad := rfl
theorem xs_nil : sms C fn [] σ = .ok ([], σ) := rfl
theorem xs_cons {e : Ex} : sms C fn (e :: es) σ = ((sm C fn e).v σ).bind fun p => (sms C fn es p.2).bind fun q => .ok (p.1 :: q.1, q.2) := rfl
/-- a test of a plain kind -/
theorem t_cmp : (sm C fn (.cmp q a b)).t σ = ((sm C fn (.cmp q a b)).v σ).bind fun p => (ofO (trD p.1)).bind fun t => .ok (t, p.2) := rfl
theorem t_v : (sm C fn (.v i)).t σ = ((sm C fn (.v i)).v σ).bind fun p => (ofO (trD p.1)).bind fun t => .ok (t, p.2) := rfl
theorem t_not : (sm C fn (.not a)).t σ = ((sm C fn a).t σ).bind fun p => .ok (!p.1, p.2) := rfl
theorem t_bop {k : Bool} : (sm C fn (.bop k a b)).t σ = ((sm C fn a).t σ).bind fun p => if p.1 = k then (sm C fn b).t p.2 else .ok p := rfl
theorem i_of : smI C fn (.of a) σ = ((sm C fn a).v σ).bind fun p => (ofO (itemsD p.1)).bind fun xs => .ok (xs, p.2) := rfl
theorem i_range1 : smI C fn (.range1 a) σ = ((sm C fn a).v σ).bind fun p => match p.1 with | .int j => if rOk j then .ok (rangeD 0 j.toNat, p.2) else .bad | _ => .bad := rfl
theorem r_asg {t : Tg} : run C sub fn (.asg t a) σ = ((sm C fn a).v σ).bind fun p => (ofO (bindT t p.1 p.2)).bind fun σ1 => .ok (.nx, σ1) := rfl
theorem r_own : run C sub fn (.own i a) σ = if isC a then ((sm C fn a).v σ).bind fun p => (ofO (ownOf p.1)).bind fun m => .ok (.nx, p.2.set i (.m false m)) else .bad := rfl
theorem r_ownC : run C sub fn (.ownC i f es) σ = (sms C fn es σ).bind fun p => (fn f (p.1.map .d)).bind fun r => match r.1 with | .m m => .ok (.nx, p.2.set i (.m false m)) | .d _ => .bad := rfl
theorem r_app : run C sub fn (.app j a) σ = if ownL σ[j]? then ((sm C fn a).v σ).bind fun p => match p.2[j]? with
      | some (.m q (.l xs)) => if xs.length < LINE then .ok (.nx, p.2.set j (.m q (.l (xs ++ [.d p.1])))) else .bad
      | _ => .bad
    else .bad := rfl
theorem r_setP : run C sub fn (.setP j a b) σ = ((sm C fn b).v σ).bind fun p => if ownA p.2[j]? then ((sm C fn a).v p.2).bind fun q => match q.2[j]? with
      | some (.m f m) => (ofO (muSet m q.1 p.1)).bind fun m' => .ok (.nx, q.2.set j (.m f m'))
      | _ => .bad
    else .bad := rfl
theorem r_ifs {x y : List Cm} : run C sub fn (.ifs c x y) σ = ((sm C fn c).t σ).bind fun p => match p.1 with | true => runs C sub fn x p.2 | false => runs C sub fn y p.2 := rfl
theorem r_for {t : Tg} {it : Ir} {y : List Cm} : run C sub fn (.for t it y) σ = (smI C fn it σ).bind fun p => forL (fun x σ => (ofO (bindT t x σ)).bind fun σ1 => runs C sub fn y σ1) p.1 p.2 := rfl
theorem r_fgt {is : List Nat} : run C sub fn (.fgt is) σ = .ok (.nx, wipeE σ is) := rfl
theorem r_ret : run C sub fn (.ret a) σ = ((sm C fn a).v σ).bind fun p => .ok (.rt (.d p.1), p.2) := rfl
theorem r_retD {ks : List Str} : run C sub fn (.retD ks es) σ = if dOk ks es.length then (sms C fn es σ).bind fun p => (ofO (kvsOf ks p.1)).bind fun m => .ok (.rt (.m (.k false m)), p.2) else .bad := rfl
theorem rs_nil : runs C sub fn [] σ = .ok (.nx, σ) := rfl
theorem rs_cons {s : Cm} {ss : List Cm} : runs C sub fn (s :: ss) σ = (run C sub fn s σ).bind fun p => match p.1 with | .nx => runs C sub fn ss p.2 | f => .ok (f, p.2) := rfl
theorem fl_nil {b : D → Rn} : forL b [] σ = .ok (.nx, σ) := rfl
theorem fl_cons {b : D → Rn} {x : D} {xs : List D} : forL b (x :: xs) σ = (b x σ).bind fun p => match p.1 with | .nx => forL b xs p.2 | .ct => forL b xs p.2 | .bk => .ok (.nx, p.2) | .rt r => .ok (.rt r, p.2) := rfl
end
/-! ### the draws -/
def bDraws : List Cm := [
  .asg (.n 3) (.v 0),
  .ifs (.cmp .lt (.v 3) (.int 0)) [.asg (.n 3) (.bin .sub (.bin .sub (.int 0) (.int 1)) (.v 3))] [],
  .own 4 (.lst []),
  .ifs (.cmp .ge (.v 3) (.bin .pow (.int 10) (.int 18))) [.fgt [5], .for (.n 5) (.range1 (.v 2)) [.app 4 (.bin .mod (.blt .int [(.v 3)]) (.v 1)), .asg (.n 3) (.bin .fdiv (.v 3) (.v 1)), .fgt [5]], .fgt [3], .ret (.fz 4)] [],
  .fgt [5],
  .fgt [5, 6],
  .for (.n 5) (.range1 (.v 2)) [.asg (.n 6) (.bin .mod (.blt .int [(.bin .mul (.bin .add (.bin .add (.v 3) (.bin .mul (.int 7) (.v 5))) (.int 1)) (.int 48271))]) (.int 2147483647)), .asg (.n 6) (.bin .mod (.blt .int [(.bin .add (.bin .mul (.v 6) (.int 69621)) (.bin .mul (.int 31) (.v 5)))]) (.int 2147483629)), .app 4 (.bin .mod (.blt .int [(.bin .fdiv (.v 6) (.int 7))]) (.v 1)), .fgt [5, 6]],
  .ret (.fz 4)]
def bBox (d : Nat) : List Cm := [
  .asg (.n 1) (.lst []),
  .fgt [2],
  .for (.n 2) (.of (.v 0)) [.asg (.n 1) (.bin .add (.v 1) (.call d [(.v 2), (.int 1000003), (.int 6)])), .fgt [2]],
  .ifs (.cmp .eq (.blt .len [(.v 1)]) (.int 0)) [.asg (.n 1) (.lst [(.int 11), (.int 5), (.int 2), (.int 7), (.int 31), (.int 101), (.int 997)])] [],
  .retD ["row", "at"] [(.v 1), (.int 0)]]
def bNext : List Cm := [
  .asg (.n 2) (.ixP 0 (.str "at")),
  .setP 0 (.str "at") (.bin .add (.v 2) (.int 1)),
  .asg (.n 3) (.ix (.ixP 0 (.str "row")) (.bin .mod (.v 2) (.blt .len [(.ixP 0 (.str "row"))]))),
  .ret (.bin .mod (.blt .int [(.bin .add (.v 3) (.bin .mul (.int 7919) (.bin .fdiv (.v 2) (.blt .len [(.ixP 0 (.str "row"))]))))]) (.v 1))]
/-- the box: its row of ints, where it stands -/
def boxM (row : List Int) (n : Nat) : Mu := .k false [(.str "row", .d (.list (row.map .int))), (.str "at", .d (.int n))]
/-- what is drawn -/
def drawn (row : List Int) (n : Nat) (m : Int) : Int := (row.getD (n % row.length) 0 + 7919 * ((n : Int) / row.length)).fmod m
theorem mIx_at {row : List Int} {n : Nat} : muIx (boxM row n) (.str "at") = some (.int n) := by kernel_rfl
theorem mIx_row {row : List Int} {n : Nat} : muIx (boxM row n) (.str "row") = some (.list (row.map .int)) := by kernel_rfl
theorem mSet_at {row : List Int} {n : Nat} : muSet (boxM row n) (.str "at") (.int ((n : Int) + 1)) = some (boxM row (n + 1)) := by kernel_rfl
theorem atI_nat {xs : List D} {j : Nat} (h : j < xs.length) : L2.atI xs (j : Int) = xs[j]? := by
  unfold L2.atI L2.ixN
  rw [if_pos (by omega), if_pos (by omega)]
  show xs[((j : Nat) : Int).toNat]? = _
  rw [Int.toNat_natCast]
theorem atI_row {row : List Int} {n : Nat} (h0 : 0 < row.length) : L2.atI (row.map PyData.int) ((n % row.length : Nat) : Int) = some (.int (row.getD (n % row.length) 0)) := by
  have hlt : n % row.length < row.length := Nat.mod_lt _ h0
  rw [atI_nat (by rw [List.length_map]; exact hlt), List.getElem?_map, List.getElem?_eq_getElem hlt, List.getD_eq_getElem?_getD, List.getElem?_eq_getElem hlt]
  rfl
theorem d_int {a : Int} : bltD .int [.int a] = some (.int a) := rfl
theorem d_mod {a b : Int} (h : b ≠ 0) : modD (.int a) (.int b) = some (.int (a.fmod b)) := if_neg h
theorem d_fdiv {a b : Int} (h : divOk b = true) : fdivD (.int a) (.int b) = some (.int (a.fdiv b)) := if_pos h
theorem d_mul {a b : Int} (h : mulOk a b = true) : mulD (.int a) (.int b) = some (.int (a * b)) := if_pos h
theorem call_eq {P : Pg} {f k : Nat} {F : Fd} (hf : P.fns[f]? = some F) {args : List AV} (ha : args.length = F.np ∧ argsOk F.own args = true) : callF P (k + 1) f args = (runs P.C P.sub (callF P k) F.body (startE F.N.length F.own args)).bind fun p => match p.1 with
    | .rt r => endE F.own r p.2
    | .nx => endE F.own (.d .none) p.2
    | _ => .bad := by
  rw [callF, hf]
  show (if args.length = F.np ∧ argsOk F.own args = true then _ else _) = _
  rw [if_pos ha] <;> rfl
theorem next_ok {P : Pg} {f k : Nat} (hf : P.fns[f]? = some ⟨"_law_next", 2, ["box", "modulus", "at", "number"], true, none, bNext⟩) {row : List Int} (hr : row ≠ []) (n : Nat) {m : Int} (hm : m ≠ 0) (hs : row.length < 1000000) :
    callF P (k + 1) f [.m (boxM row n), .d (.int m)] = .ok (.d (.int (drawn row n m)), some (boxM row (n + 1))) := by
  have h0 : 0 < row.length := by cases row with | nil => exact absurd rfl hr | cons _ _ => exact Nat.succ_pos _
  have h1 : (n : Int).fmod row.length = ((n % row.length : Nat) : Int) := by rw [Int.fmod_eq_emod_of_nonneg _ (by omega)]; rfl
  have h2 : (n : Int).fdiv row.length = (n : Int) / row.length := by rw [Int.fdiv_eq_ediv_of_nonneg _ (by omega)]
  have h3 := atI_row (n := n) h0
  have h4 : divOk (row.length : Int) = true := by
    unfold divOk
    rw [Bool.and_eq_true, Bool.or_eq_true]
    exact ⟨decide_eq_true (by omega), .inl (inB_ok (by omega) (by omega))⟩
  have h5 : mulOk 7919 ((n : Int) / row.length) = true := by
    unfold mulOk
    rw [Bool.or_eq_true]
    exact .inl (by decide)
  rw [call_eq hf ⟨rfl, rfl⟩]
  have st : startE 4 true [.m (boxM row n), .d (.int m)] = [.m true (boxM row n), .d (.int m), .u, .u] := rfl
  show (runs P.C P.sub (callF P k) bNext (startE 4 true [.m (boxM row n), .d (.int m)])).bind _ = _
  rw [st, bNext]
  have e1 : bltD .len [.list (row.map PyData.int)] = some (.int row.length) := by simp [bltD, lenD]
  have e2 : modD (.int (n : Int)) (.int (row.length : Int)) = some (.int ((n % row.length : Nat) : Int)) := by rw [d_mod (by omega), h1]
  have e3 : fdivD (.int (n : Int)) (.int (row.length : Int)) = some (.int ((n : Int) / row.length)) := by rw [d_fdiv h4, h2]
  have e4 := d_mul h5
  have e5 : ∀ a : Int, modD (.int a) (.int m) = some (.int (a.fmod m)) := fun a => d_mod hm
  have e6 : idxD (.list (row.map PyData.int)) (.int ((n % row.length : Nat) : Int)) = some (.int (row.getD (n % row.length) 0)) := h3
  have k1 : muKind (boxM row (n + 1)) = muKind (boxM row (n + 1)) := rfl
  simp only [rs_cons, rs_nil, r_asg, r_ret, x_ixP, x_str, x_ix, x_blt, xs_cons, xs_nil, List.getElem?_cons_zero, List.getElem?_cons_succ, ok_bind, if_true, mIx_at, mIx_row, ofO_some, bindT, List.set_cons_zero, List.set_cons_succ, r_setP, x_bin, x_v, x_int, binD, addD, ownA, mSet_at, e1, e2, e3, e4, e5, e6, d_int, endE, drawn]
/-! ### a cell's six draws -/
theorem m_48271 {a : Int} : mulD (.int a) (.int 48271) = some (.int (a * 48271)) := d_mul (by unfold mulOk; rw [Bool.or_eq_true, Bool.or_eq_true]; exact .inr (.inl (by decide)))
theorem m_69621 {a : Int} : mulD (.int a) (.int 69621) = some (.int (a * 69621)) := d_mul (by unfold mulOk; rw [Bool.or_eq_true, Bool.or_eq_true]; exact .inr (.inl (by decide)))
theorem m_7 {a : Int} : mulD (.int 7) (.int a) = some (.int (7 * a)) := d_mul (by unfold mulOk; rw [Bool.or_eq_true]; exact .inl (by decide))
theorem m_31 {a : Int} : mulD (.int 31) (.int a) = some (.int (31 * a)) := d_mul (by unfold mulOk; rw [Bool.or_eq_true]; exact .inl (by decide))
theorem q_7 {a : Int} : fdivD (.int a) (.int 7) = some (.int (a.fdiv 7)) := d_fdiv (by decide)
theorem q_M {a : Int} : fdivD (.int a) (.int 1000003) = some (.int (a.fdiv 1000003)) := d_fdiv (by decide)
theorem r_a {a : Int} : modD (.int a) (.int 2147483647) = some (.int (a.fmod 2147483647)) := d_mod (by decide)
theorem r_b {a : Int} : modD (.int a) (.int 2147483629) = some (.int (a.fmod 2147483629)) := d_mod (by decide)
theorem r_M {a : Int} : modD (.int a) (.int 1000003) = some (.int (a.fmod 1000003)) := d_mod (by decide)
theorem p_18 : powD (.int 10) (.int 18) = some (.int 1000000000000000000) := by kernel_rfl
theorem a_int {a b : Int} : addD (.int a) (.int b) = some (.int (a + b)) := rfl
theorem s_int {a b : Int} : subD (.int a) (.int b) = some (.int (a - b)) := rfl
theorem le_0 : (([] : List D).length ≤ LINE) = True := by decide +kernel
theorem ic_lst {es : List Ex} : (isC (.lst es) = true) = True := eq_true rfl
theorem li_0 : (([] : List Mu).length < LINE) = True := by decide +kernel
theorem li_1 {a : Mu} : ([a].length < LINE) = True := eq_true (by show 1 < LINE; decide)
theorem li_2 {a b : Mu} : ([a, b].length < LINE) = True := eq_true (by show 2 < LINE; decide)
theorem li_3 {a b c : Mu} : ([a, b, c].length < LINE) = True := eq_true (by show 3 < LINE; decide)
theorem li_4 {a b c d : Mu} : ([a, b, c, d].length < LINE) = True := eq_true (by show 4 < LINE; decide)
theorem li_5 {a b c d e : Mu} : ([a, b, c, d, e].length < LINE) = True := eq_true (by show 5 < LINE; decide)
theorem c_lt {a b : Int} : cmpD .lt (.int a) (.int b) = some (decide (a < b)) := rfl
theorem c_ge {a b : Int} : cmpD .ge (.int a) (.int b) = some (decide (b ≤ a)) := rfl
theorem rng6 : rangeD 0 (Int.toNat 6) = [.int 0, .int 1, .int 2, .int 3, .int 4, .int 5] := rfl
theorem rOk6 : rOk 6 = true := by decide
theorem tr_bool {b : Bool} : trD (.bool b) = some b := rfl
theorem bool_true {α : Type} {a b : α} : (match (true : Bool) with | true => a | false => b) = a := rfl
theorem bool_false {α : Type} {a b : α} : (match (false : Bool) with | true => a | false => b) = b := rfl
def mix1 (n k : Int) : Int := (((((n + 7 * k + 1) * 48271).fmod 2147483647 * 69621 + 31 * k).fmod 2147483629).fdiv 7).fmod 1000003
def drawsS (n : Int) : List Int := [mix1 n 0, mix1 n 1, mix1 n 2, mix1 n 3, mix1 n 4, mix1 n 5]
def cutM (n : Int) : Nat → Int
  | 0 => n
  | k + 1 => (cutM n k).fdiv 1000003
def drawsB (n : Int) : List Int := [(cutM n 0).fmod 1000003, (cutM n 1).fmod 1000003, (cutM n 2).fmod 1000003, (cutM n 3).fmod 1000003, (cutM n 4).fmod 1000003, (cutM n 5).fmod 1000003]
/-- the loop of a small number -/
theorem draws_small {C : List (Str × D)} {sub : List (Str × Str)} {fn : Fns} (s0 : Slot) (n : Int) : runs C sub fn (bDraws.drop 4) [s0, .d (.int 1000003), .d (.int 6), .d (.int n), .m false (.l []), .u, .u] =
    .ok (.rt (.d (.list ((drawsS n).map .int))), [s0, .d (.int 1000003), .d (.int 6), .d (.int n), .d (.list ((drawsS n).map .int)), .u, .u]) := by
  show runs C sub fn [_, _, _, _] _ = _
  simp only [rs_cons, rs_nil, r_fgt, wipeE, List.set_cons_zero, List.set_cons_succ, ok_bind, r_for, i_range1, x_v, x_int, List.getElem?_cons_zero, List.getElem?_cons_succ, rOk6, if_true, rng6, fl_cons, fl_nil, bindT, ofO_some, r_asg, x_bin, binD, x_blt, xs_cons, xs_nil, a_int, m_7, m_48271, m_69621, m_31, d_int, r_a, r_b, r_M, q_7, r_app, ownL, li_0, li_1, li_2, li_3, li_4, li_5, List.nil_append, List.cons_append]
  rfl
theorem draws_big {C : List (Str × D)} {sub : List (Str × Str)} {fn : Fns} (s0 : Slot) (n : Int) : runs C sub fn [.fgt [5], .for (.n 5) (.range1 (.v 2)) [.app 4 (.bin .mod (.blt .int [(.v 3)]) (.v 1)), .asg (.n 3) (.bin .fdiv (.v 3) (.v 1)), .fgt [5]], .fgt [3], .ret (.fz 4)] [s0, .d (.int 1000003), .d (.int 6), .d (.int n), .m false (.l []), .u, .u] =
    .ok (.rt (.d (.list ((drawsB n).map .int))), [s0, .d (.int 1000003), .d (.int 6), .u, .d (.list ((drawsB n).map .int)), .u, .u]) := by
  simp only [rs_cons, rs_nil, r_fgt, wipeE, List.set_cons_zero, List.set_cons_succ, ok_bind, r_for, i_range1, x_v, x_int, List.getElem?_cons_zero, List.getElem?_cons_succ, rOk6, if_true, rng6, fl_cons, fl_nil, bindT, ofO_some, r_asg, x_bin, binD, x_blt, xs_cons, xs_nil, d_int, r_M, q_M, r_app, ownL, binD, li_0, li_1, li_2, li_3, li_4, li_5, List.nil_append, List.cons_append]
  rfl
def drawsOf (c : Int) : List Int := if 1000000000000000000 ≤ (if c < 0 then 0 - 1 - c else c) then drawsB (if c < 0 then 0 - 1 - c else c) else drawsS (if c < 0 then 0 - 1 - c else c)
theorem drawsOf_len (c : Int) : (drawsOf c).length = 6 := by unfold drawsOf; split <;> split <;> rfl
theorem draws_ok {P : Pg} {f k : Nat} (hf : P.fns[f]? = some ⟨"_law_draws", 3, ["cell", "modulus", "count", "number", "row", "k", "mixed"], false, none, bDraws⟩) (c : Int) : callF P (k + 1) f [.d (.int c), .d (.int 1000003), .d (.int 6)] = .ok (.d (.list ((drawsOf c).map .int)), none) := by
  rw [call_eq hf ⟨rfl, rfl⟩]
  show (runs P.C P.sub (callF P k) bDraws [.d (.int c), .d (.int 1000003), .d (.int 6), .u, .u, .u, .u]).bind _ = _
  have st : ∀ n : Int, runs P.C P.sub (callF P k) (bDraws.drop 2) [.d (.int c), .d (.int 1000003), .d (.int 6), .d (.int n), .u, .u, .u] =
      .ok (.rt (.d (.list ((if 1000000000000000000 ≤ n then drawsB n else drawsS n).map .int))), [.d (.int c), .d (.int 1000003), .d (.int 6), if 1000000000000000000 ≤ n then .u else .d (.int n), .d (.list ((if 1000000000000000000 ≤ n then drawsB n else drawsS n).map .int)), .u, .u]) := fun n => by
    have e : ownOf (.list []) = some (.l []) := rfl
    have z : bDraws.drop 2 = .own 4 (.lst []) :: .ifs (.cmp .ge (.v 3) (.bin .pow (.int 10) (.int 18))) [.fgt [5], .for (.n 5) (.range1 (.v 2)) [.app 4 (.bin .mod (.blt .int [(.v 3)]) (.v 1)), .asg (.n 3) (.bin .fdiv (.v 3) (.v 1)), .fgt [5]], .fgt [3], .ret (.fz 4)] [] :: bDraws.drop 4 := rfl
    have big := draws_big (C := P.C) (sub := P.sub) (fn := callF P k) (.d (.int c)) n
    rw [z]
    generalize ([.fgt [5], .for (.n 5) (.range1 (.v 2)) [.app 4 (.bin .mod (.blt .int [(.v 3)]) (.v 1)), .asg (.n 3) (.bin .fdiv (.v 3) (.v 1)), .fgt [5]], .fgt [3], .ret (.fz 4)] : List Cm) = B at big ⊢
    simp only [rs_cons, r_own, ic_lst, if_true, x_lst, xs_nil, ok_bind, le_0, e, ofO_some, List.set_cons_succ, List.set_cons_zero, r_ifs, t_cmp, x_cmp, x_v, x_bin, x_int, List.getElem?_cons_zero, List.getElem?_cons_succ, binD, p_18, c_ge, tr_bool]
    by_cases h : 1000000000000000000 ≤ n
    · simp only [if_pos h, decide_eq_true h, big, ok_bind]
    · simp only [if_neg h, decide_eq_false h, rs_nil, ok_bind, draws_small]
  have z : bDraws = .asg (.n 3) (.v 0) :: .ifs (.cmp .lt (.v 3) (.int 0)) [.asg (.n 3) (.bin .sub (.bin .sub (.int 0) (.int 1)) (.v 3))] [] :: bDraws.drop 2 := rfl
  rw [z]
  simp only [rs_cons, r_asg, x_v, List.getElem?_cons_zero, List.getElem?_cons_succ, ok_bind, bindT, ofO_some, List.set_cons_succ, List.set_cons_zero, r_ifs, t_cmp, x_cmp, x_int, c_lt, tr_bool]
  by_cases h : c < 0
  · rw [decide_eq_true h]
    simp only [rs_cons, rs_nil, r_asg, x_bin, x_int, x_v, ok_bind, List.getElem?_cons_zero, List.getElem?_cons_succ, binD, s_int, ofO_some, bindT, List.set_cons_succ, List.set_cons_zero, st, endE]
    unfold drawsOf
    rw [if_pos h]
  · rw [decide_eq_false h]
    simp only [rs_nil, ok_bind, st, endE]
    unfold drawsOf
    rw [if_neg h]
/-! ### the box -/
def rowOf (ns : List Int) : List Int := if ns.flatMap drawsOf = [] then [11, 5, 2, 7, 31, 101, 997] else ns.flatMap drawsOf
theorem rowOf_ne (ns : List Int) : rowOf ns ≠ [] := by
  unfold rowOf
  split
  · simp
  · assumption
theorem flat_len : ∀ ns : List Int, (ns.flatMap drawsOf).length = 6 * ns.length
  | [] => rfl
  | n :: ns => by rw [List.flatMap_cons, List.length_append, drawsOf_len, flat_len ns, List.length_cons]; omega
theorem rowOf_len {ns : List Int} (h : ns.length ≤ 63) : (rowOf ns).length < 1000000 := by
  unfold rowOf
  split
  · decide
  · rw [flat_len]; omega
theorem a_list {a b : List D} (h : a.length + b.length ≤ LINE) : addD (.list a) (.list b) = some (.list (a ++ b)) := if_pos h
def bTurn (d : Nat) : List Cm := [.asg (.n 1) (.bin .add (.v 1) (.call d [(.v 2), (.int 1000003), (.int 6)])), .fgt [2]]
theorem box_turn {P : Pg} {d k : Nat} (hd : P.fns[d]? = some ⟨"_law_draws", 3, ["cell", "modulus", "count", "number", "row", "k", "mixed"], false, none, bDraws⟩) (s0 : Slot) (n : Int) (acc : List Int) (h : acc.length ≤ 1000) :
    (ofO (bindT (.n 2) (.int n) [s0, .d (.list (acc.map .int)), .u])).bind (fun σ1 => runs P.C P.sub (callF P (k + 1)) (bTurn d) σ1) = .ok (.nx, [s0, .d (.list ((acc ++ drawsOf n).map .int)), .u]) := by
  have hL : LINE = 16777216 := rfl
  have e : (acc.map PyData.int).length + ((drawsOf n).map PyData.int).length ≤ LINE := by rw [List.length_map, List.length_map, drawsOf_len]; omega
  unfold bTurn
  simp only [bindT, ofO_some, ok_bind, List.set_cons_succ, List.set_cons_zero, rs_cons, rs_nil, r_asg, x_bin, x_v, x_call, x_int, xs_cons, xs_nil, List.getElem?_cons_zero, List.getElem?_cons_succ, List.map_cons, List.map_nil, draws_ok hd, datO, binD, a_list e, r_fgt, wipeE, List.map_append]
theorem box_loop {P : Pg} {d k : Nat} (hd : P.fns[d]? = some ⟨"_law_draws", 3, ["cell", "modulus", "count", "number", "row", "k", "mixed"], false, none, bDraws⟩) (s0 : Slot) : ∀ (ns acc : List Int), acc.length + 6 * ns.length ≤ 1000 →
    forL (fun x σ => (ofO (bindT (.n 2) x σ)).bind fun σ1 => runs P.C P.sub (callF P (k + 1)) (bTurn d) σ1) (ns.map .int) [s0, .d (.list (acc.map .int)), .u] = .ok (.nx, [s0, .d (.list ((acc ++ ns.flatMap drawsOf).map .int)), .u])
  | [], acc, _ => by simp [fl_nil]
  | n :: ns, acc, h => by
    rw [List.length_cons] at h
    rw [List.map_cons, fl_cons, box_turn hd s0 n acc (by omega), ok_bind]
    show forL _ _ _ = _
    rw [box_loop hd s0 ns (acc ++ drawsOf n) (by rw [List.length_append, drawsOf_len]; omega), List.flatMap_cons, List.append_assoc]
theorem l_list {xs : List D} : bltD .len [.list xs] = some (.int xs.length) := rfl
theorem box_ok {P : Pg} {d f k : Nat} (hd : P.fns[d]? = some ⟨"_law_draws", 3, ["cell", "modulus", "count", "number", "row", "k", "mixed"], false, none, bDraws⟩) (hf : P.fns[f]? = some ⟨"_law_box", 1, ["script", "row", "cell"], false, none, bBox d⟩) (ns : List Int) (h : ns.length ≤ 63) :
    callF P (k + 2) f [.d (.list (ns.map .int))] = .ok (.m (boxM (rowOf ns) 0), none) := by
  have hL : LINE = 16777216 := rfl
  rw [call_eq hf ⟨rfl, rfl⟩]
  show (runs P.C P.sub (callF P (k + 1)) (bBox d) [.d (.list (ns.map .int)), .u, .u]).bind _ = _
  have lp := box_loop (k := k) hd (.d (.list (ns.map .int))) ns [] (by rw [List.length_nil]; omega)
  have it : itemsD (.list (ns.map PyData.int)) = some (ns.map .int) := rfl
  have eqz : ∀ m : Nat, cmpD .eq (.int (m : Int)) (.int 0) = some ((m : Int) == 0) := fun _ => rfl
  have dk : dOk ["row", "at"] 2 = true := by decide +kernel
  show (runs P.C P.sub (callF P (k + 1)) [.asg (.n 1) (.lst []), .fgt [2], .for (.n 2) (.of (.v 0)) (bTurn d), .ifs (.cmp .eq (.blt .len [(.v 1)]) (.int 0)) [.asg (.n 1) (.lst [(.int 11), (.int 5), (.int 2), (.int 7), (.int 31), (.int 101), (.int 997)])] [], .retD ["row", "at"] [(.v 1), (.int 0)]] [.d (.list (ns.map .int)), .u, .u]).bind _ = _
  have e7 : (([.int 11, .int 5, .int 2, .int 7, .int 31, .int 101, .int 997] : List PyData).length ≤ LINE) = True := by decide +kernel
  have kv : ∀ xs : List PyData, kvsOf ["row", "at"] [.list xs, .int 0] = some [(.str "row", .d (.list xs)), (.str "at", .d (.int 0))] := fun _ => rfl
  have z0 : (PyData.list ([] : List PyData)) = .list (([] : List Int).map .int) := rfl
  simp only [rs_cons, rs_nil, r_asg, x_lst, xs_nil, ok_bind, le_0, if_true, bindT, ofO_some, List.set_cons_succ, List.set_cons_zero, r_fgt, wipeE, r_for, i_of, x_v, List.getElem?_cons_zero, List.getElem?_cons_succ, it]
  simp only [bindT, ofO_some, ok_bind, List.set_cons_succ, List.set_cons_zero] at lp
  rw [z0, lp]
  simp only [ok_bind, List.nil_append, r_ifs, t_cmp, x_cmp, x_blt, xs_cons, xs_nil, x_v, x_int, List.getElem?_cons_zero, List.getElem?_cons_succ, l_list, ofO_some, List.length_map, eqz, tr_bool, r_retD]
  by_cases e : ns.flatMap drawsOf = []
  · have r : rowOf ns = [11, 5, 2, 7, 31, 101, 997] := if_pos e
    rw [r, e]
    simp only [List.length_nil, List.map_nil]
    kernel_rfl
  · have r : rowOf ns = ns.flatMap drawsOf := if_neg e
    rw [r]
    have q : ((((ns.flatMap drawsOf).length : Nat) : Int) == 0) = false := by
      rw [beq_eq_false_iff_ne]
      intro z
      apply e
      rw [← List.length_eq_zero_iff]
      omega
    rw [q]
    kernel_rfl
end N
/-! N21: a draw inside an expression; finite cases. -/
namespace N
open PySem
theorem drawn_rng (row : List Int) (n : Nat) {m : Int} (h : 0 < m) : 0 ≤ drawn row n m ∧ drawn row n m < m := by
  unfold drawn
  rw [Int.fmod_eq_emod_of_nonneg _ (by omega)]
  exact ⟨Int.emod_nonneg _ (by omega), Int.emod_lt_of_pos _ h⟩
/-- the ints below m -/
def below : Nat → List Int := fun m => (List.range m).map Int.ofNat
theorem mem_below {m : Nat} {z : Int} (h0 : 0 ≤ z) (h1 : z < m) : z ∈ below m := by
  refine List.mem_map.mpr ⟨z.toNat, List.mem_range.mpr (by omega), ?_⟩
  show ((z.toNat : Nat) : Int) = z
  omega
theorem drawn_mem (row : List Int) (n : Nat) {m : Nat} (h : 0 < m) : drawn row n (m : Int) ∈ below m := by
  have := drawn_rng row n (m := m) (by omega)
  exact mem_below this.1 this.2
def pairsOf (a b : List Int) : List (Int × Int) := a.flatMap fun x => b.map fun y => (x, y)
theorem mem_pairs {a b : List Int} {x y : Int} (hx : x ∈ a) (hy : y ∈ b) : (x, y) ∈ pairsOf a b := List.mem_flatMap.mpr ⟨x, hx, List.mem_map.mpr ⟨y, hy, rfl⟩⟩
theorem of_map_eq {α β : Type} {f g : α → β} : ∀ {l : List α}, l.map f = l.map g → ∀ {x : α}, x ∈ l → f x = g x
  | [], _, _, h => nomatch h
  | a :: l, e, x, h => by
    rw [List.map_cons, List.map_cons] at e
    injection e with e1 e2
    rcases List.mem_cons.mp h with h | h
    · rw [h]; exact e1
    · exact of_map_eq e2 h
theorem draw_v {P : Pg} {f k j : Nat} {C : List (Str × D)} (hf : P.fns[f]? = some ⟨"_law_next", 2, ["box", "modulus", "at", "number"], true, none, bNext⟩) {σ σ1 : En} {e : Ex} {q q' : Bool} {m0 : Mu} {row : List Int} (hr : row ≠ []) (hs : row.length < 1000000) {n : Nat} {m : Int} (hm : 0 < m)
    (h0 : σ[j]? = some (.m q' m0)) (he : (sm C (callF P (k + 1)) e).v σ = .ok (.int m, σ1)) (h1 : σ1[j]? = some (.m q (boxM row n))) :
    (sm C (callF P (k + 1)) (.callO f j [e])).v σ = .ok (.int (drawn row n m), σ1.set j (.m q (boxM row (n + 1)))) := by
  have e1 := next_ok (k := k) hf hr n (m := m) (by omega) hs
  rw [x_callO, h0]
  simp only [xs_cons, xs_nil, he, ok_bind, h1, List.map_cons, List.map_nil, e1, datO, ofO_some]
end N
/-! N22: typed values. -/
namespace N
open PySem
/-- a Lean type whose elements are values; equality of values is equality -/
class Em (α : Type) [DecidableEq α] where
  e : α → D
  dep : Nat
  lay : ∀ a, (e a).canLay0 = true
  dp : ∀ a, (e a).depth ≤ dep
  eqv : ∀ a b, PyData.eqv (e a) (e b) = decide (a = b)
instance : Em Int := ⟨.int, 0, fun _ => rfl, fun _ => Nat.le_refl _, fun a b => by
  rw [PyData.eqv]; by_cases h : a = b <;> simp [h]⟩
instance : Em Bool := ⟨.bool, 0, fun _ => rfl, fun _ => Nat.le_refl _, fun a b => by
  rw [PyData.eqv]; by_cases h : a = b <;> simp [h]⟩
/-- a text -/
structure Tx where
  s : Str
  ok : PyData.canLay0 (.str s) = true
  deriving DecidableEq
instance : Em Tx := ⟨fun t => .str t.s, 0, fun t => t.ok, fun _ => Nat.le_refl _, fun a b => by
  rw [PyData.eqv]; cases a; cases b; simp; rw [Bool.eq_iff_iff]; simp⟩
theorem layAll {α : Type} [DecidableEq α] [Em α] : ∀ l : List α, PyData.canLayAll0 (l.map Em.e) = true
  | [] => rfl
  | a :: l => by rw [List.map_cons, PyData.canLayAll0, Em.lay, layAll l]; rfl
theorem depAll {α : Type} [DecidableEq α] [Em α] : ∀ l : List α, PyData.depthAll (l.map Em.e) ≤ Em.dep α
  | [] => Nat.zero_le _
  | a :: l => by rw [List.map_cons, PyData.depthAll]; exact Nat.max_le.mpr ⟨Em.dp a, depAll l⟩
theorem eqvAll_e {α : Type} [DecidableEq α] [Em α] : ∀ l m : List α, PyData.eqvAll (l.map Em.e) (m.map Em.e) = decide (l = m)
  | [], [] => rfl
  | [], _ :: _ => by simp [PyData.eqvAll]
  | _ :: _, [] => by simp [PyData.eqvAll]
  | a :: l, b :: m => by
    rw [List.map_cons, List.map_cons, PyData.eqvAll, Em.eqv, eqvAll_e l m]
    by_cases h : a = b <;> by_cases h1 : l = m <;> simp [h, h1]
instance {α : Type} [DecidableEq α] [Em α] : Em (List α) := ⟨fun l => .list (l.map Em.e), Em.dep α + 1, fun l => layAll l, fun l => Nat.succ_le_succ (depAll l), fun a b => by
  rw [PyData.eqv, eqvAll_e]⟩
instance {α β : Type} [DecidableEq α] [DecidableEq β] [Em α] [Em β] : Em (α × β) := ⟨fun p => .tuple [Em.e p.1, Em.e p.2], max (Em.dep α) (Em.dep β) + 1,
  fun p => by show PyData.canLayAll0 [_, _] = true; rw [PyData.canLayAll0, PyData.canLayAll0, Em.lay, Em.lay]; rfl,
  fun p => by
    show PyData.depthAll [_, _] + 1 ≤ _
    have h1 := Em.dp p.1
    have h2 := Em.dp p.2
    rw [PyData.depthAll, PyData.depthAll, PyData.depthAll]
    omega,
  fun p q => by
    obtain ⟨a, b⟩ := p
    obtain ⟨c, d⟩ := q
    rw [PyData.eqv, PyData.eqvAll, PyData.eqvAll, PyData.eqvAll, Em.eqv, Em.eqv]
    by_cases h : a = c <;> by_cases h1 : b = d <;> simp [h, h1]⟩
theorem shaped_e {α : Type} [DecidableEq α] [Em α] (h : Em.dep α ≤ 64) (a : α) : SeqAt.shaped (Em.e a) = true := by
  unfold SeqAt.shaped
  rw [Em.lay, decide_eq_true (Nat.le_trans (Em.dp a) h)]
  rfl
theorem eqD_gen {a b : D} (ha : SeqAt.shaped a = true) (hb : SeqAt.shaped b = true) : eqD a b = some (PyData.eqv a b) := by
  unfold eqD
  split
  · rfl
  · rw [PyData.eqv]; congr 1
  · rw [PyData.eqv]
  · rw [ha, hb]; rfl
theorem eqD_e {α : Type} [DecidableEq α] [Em α] (h : Em.dep α ≤ 64) (a b : α) : eqD (Em.e a) (Em.e b) = some (decide (a = b)) := by
  rw [eqD_gen (shaped_e h a) (shaped_e h b), Em.eqv]
/-! ### loops and comprehensions -/
theorem listL_map {α : Type} {f : D → En → Res (Option D × En)} {em g : α → D} {σ : En} : ∀ (l : List α) (acc : List D), (∀ a ∈ l, f (em a) σ = .ok (some (g a), σ)) → acc.length + l.length ≤ LINE → listL f (l.map em) σ acc = .ok (acc ++ l.map g, σ)
  | [], acc, _, _ => by simp [listL]
  | a :: l, acc, h, hl => by
    have hL : LINE = 16777216 := rfl
    rw [List.length_cons] at hl
    rw [List.map_cons, listL, h a (List.mem_cons_self ..), ok_bind]
    show (if acc.length < LINE then _ else _) = _
    rw [if_pos (by omega), listL_map l _ (fun b hb => h b (List.mem_cons_of_mem _ hb)) (by rw [List.length_append, List.length_singleton]; omega), List.append_assoc]
    rfl
theorem listL_flt {α : Type} {f : D → En → Res (Option D × En)} {em g : α → D} {p : α → Bool} {σ : En} : ∀ (l : List α) (acc : List D), (∀ a ∈ l, f (em a) σ = .ok (if p a then some (g a) else none, σ)) → acc.length + l.length ≤ LINE → listL f (l.map em) σ acc = .ok (acc ++ (l.filter p).map g, σ)
  | [], acc, _, _ => by simp [listL]
  | a :: l, acc, h, hl => by
    have hL : LINE = 16777216 := rfl
    rw [List.length_cons] at hl
    rw [List.map_cons, listL, h a (List.mem_cons_self ..), ok_bind]
    cases hp : p a with
    | true =>
      simp only [if_true]
      rw [if_pos (by omega), listL_flt l _ (fun b hb => h b (List.mem_cons_of_mem _ hb)) (by rw [List.length_append, List.length_singleton]; omega), List.append_assoc, List.filter_cons_of_pos (by rw [hp])]
      rfl
    | false =>
      simp only [Bool.false_eq_true, if_false]
      rw [listL_flt l _ (fun b hb => h b (List.mem_cons_of_mem _ hb)) (by omega), List.filter_cons_of_neg (by rw [hp]; exact Bool.false_ne_true)]
section
variable {C : List (Str × D)} {sub : List (Str × Str)} {fn : Fns} {σ σ1 : En} {i j f : Nat} {a b c d : Ex} {es : List Ex} {o o1 o2 : BOp} {q q1 q2 : COp} {t : Tk}
def lcB (C : List (Str × D)) (fn : Fns) (elt : Ex) (tg : Tg) (cs : OEx) (own : List Nat) (x : D) (σ : En) : Res (Option D × En) := (ofO (bindT tg x σ)).bind fun σ1 => (smC C fn cs σ1).bind fun p => match p.1 with
        | true => ((sm C fn elt).v p.2).bind fun q => .ok (some q.1, wipeE q.2 own)
        | false => .ok (none, wipeE p.2 own)
theorem x_lc {elt : Ex} {tg : Tg} {it : Ir} {cs : OEx} {own : List Nat} : (sm C fn (.lc elt tg it cs own)).v σ = (smI C fn it σ).bind fun p => (listL (lcB C fn elt tg cs own) p.1 (wipeE p.2 own) []).still.bind fun q => .ok (.list q.1, backE p.2 q.2 own) := rfl
theorem x_gq {k : Bool} {elt : Ex} {tg : Tg} {it : Ir} {cs : OEx} {own : List Nat} : (sm C fn (.gq k elt tg it cs own)).v σ = (smI C fn it σ).bind fun p => (quaL k (lcB C fn elt tg cs own) p.1 (wipeE p.2 own)).still.bind fun q => .ok (.bool q.1, backE p.2 q.2 own) := rfl
theorem lc_map {α : Type} {elt : Ex} {tg : Tg} {it : Ir} {own : List Nat} {l : List α} {em g : α → D} (hit : smI C fn it σ = .ok (l.map em, σ1)) (hl : l.length ≤ LINE)
    (hb : ∀ a ∈ l, ((ofO (bindT tg (em a) (wipeE σ1 own))).bind fun s => ((sm C fn elt).v s).bind fun q => .ok (some q.1, wipeE q.2 own)) = .ok (some (g a), wipeE σ1 own)) :
    (sm C fn (.lc elt tg it .no own)).v σ = .ok (.list (l.map g), backE σ1 (wipeE σ1 own) own) := by
  rw [x_lc, hit, ok_bind]
  show (listL _ (l.map em) (wipeE σ1 own) []).still.bind _ = _
  rw [listL_map (g := g) l [] hb (by rw [List.length_nil]; omega)]
  rfl
theorem lc_flt {α : Type} {elt : Ex} {tg : Tg} {it : Ir} {cs : OEx} {own : List Nat} {l : List α} {em g : α → D} {p : α → Bool} (hit : smI C fn it σ = .ok (l.map em, σ1)) (hl : l.length ≤ LINE)
    (hb : ∀ a ∈ l, ((ofO (bindT tg (em a) (wipeE σ1 own))).bind fun s => (smC C fn cs s).bind fun r => match r.1 with
        | true => ((sm C fn elt).v r.2).bind fun q => .ok (some q.1, wipeE q.2 own)
        | false => .ok (none, wipeE r.2 own)) = .ok (if p a then some (g a) else none, wipeE σ1 own)) :
    (sm C fn (.lc elt tg it cs own)).v σ = .ok (.list ((l.filter p).map g), backE σ1 (wipeE σ1 own) own) := by
  rw [x_lc, hit, ok_bind]
  show (listL _ (l.map em) (wipeE σ1 own) []).still.bind _ = _
  rw [listL_flt (g := g) (p := p) l [] hb (by rw [List.length_nil]; omega)]
  rfl
theorem quaL_ok {α : Type} {k : Bool} {f : D → En → Res (Option D × En)} {em : α → D} {p : α → Bool} {σ : En} : ∀ (l : List α), (∀ a ∈ l, f (em a) σ = .ok (some (.bool (p a)), σ)) → quaL k f (l.map em) σ = .ok (if k then l.all p else l.any p, σ)
  | [], _ => by cases k <;> rfl
  | a :: l, h => by
    have ih := quaL_ok (k := k) (p := p) l (fun b hb => h b (List.mem_cons_of_mem _ hb))
    rw [List.map_cons, quaL, h a (List.mem_cons_self ..), ok_bind]
    show (if p a = k then _ else _) = _
    rw [ih]
    cases k <;> cases hp : p a <;> simp [hp]
theorem gq_ok {α : Type} {k : Bool} {elt : Ex} {tg : Tg} {it : Ir} {own : List Nat} {l : List α} {em : α → D} {p : α → Bool} (hit : smI C fn it σ = .ok (l.map em, σ1))
    (hb : ∀ a ∈ l, ((ofO (bindT tg (em a) (wipeE σ1 own))).bind fun s => ((sm C fn elt).v s).bind fun q => .ok (some q.1, wipeE q.2 own)) = .ok (some (.bool (p a)), wipeE σ1 own)) :
    (sm C fn (.gq k elt tg it .no own)).v σ = .ok (.bool (if k then l.all p else l.any p), backE σ1 (wipeE σ1 own) own) := by
  rw [x_gq, hit, ok_bind]
  show (quaL k _ (l.map em) (wipeE σ1 own)).still.bind _ = _
  rw [quaL_ok (p := p) l hb]
  rfl
/-- a loop that goes through: the state is st z -/
theorem forL_fold {α β : Type} {b : D → Rn} {em : α → D} {st : β → En} {g : β → α → β} (I : List α → β → Prop) : ∀ (l : List α) (z : β), I l z → (∀ a r z, I (a :: r) z → b (em a) (st z) = .ok (.nx, st (g z a)) ∧ I r (g z a)) → forL b (l.map em) (st z) = .ok (.nx, st (l.foldl g z)) ∧ I [] (l.foldl g z)
  | [], z, h, _ => ⟨rfl, h⟩
  | a :: l, z, h, hb => by
    have h1 := hb a l z h
    rw [List.map_cons, fl_cons, h1.1, ok_bind]
    exact forL_fold I l (g z a) h1.2 hb
theorem bt_n {x : D} : bindT (.n i) x σ = some (σ.set i (.d x)) := rfl
theorem bt_2 {x y : D} : bindT (.t [.n i, .n j]) (.tuple [x, y]) σ = some ((σ.set i (.d x)).set j (.d y)) := rfl
theorem bt_3 {l : Nat} {x y z : D} : bindT (.t [.n i, .n j, .n l]) (.tuple [x, y, z]) σ = some (((σ.set i (.d x)).set j (.d y)).set l (.d z)) := rfl
theorem x_chain : (sm C fn (.chain q1 q2 a b c)).v σ = ((sm C fn a).v σ).bind fun p => ((sm C fn b).v p.2).bind fun q => (ofO (cmpD q1 p.1 q.1)).bind fun z =>
      match z with
      | true => ((sm C fn c).v q.2).bind fun r => (ofO (cmpD q2 q.1 r.1)).bind fun z => .ok (.bool z, r.2)
      | false => .ok (.bool false, q.2) := rfl
theorem x_sl {lo hi : OEx} : (sm C fn (.sl a lo hi)).v σ = ((sm C fn a).v σ).bind fun p => (smO C fn lo p.2).bind fun q => (smO C fn hi q.2).bind fun r => (ofO (slcD p.1 q.1 r.1)).bind fun z => .ok (z, r.2) := rfl
theorem xo_no : smO C fn .no σ = .ok (none, σ) := rfl
theorem xo_so : smO C fn (.so a) σ = ((sm C fn a).v σ).bind fun p => match p.1 with | .int i => .ok (some i, p.2) | _ => .bad := rfl
theorem xc_no : smC C fn .no σ = .ok (true, σ) := rfl
theorem xc_so : smC C fn (.so a) σ = (sm C fn a).t σ := rfl
theorem x_mth {m : Mth} : (sm C fn (.mth m a es)).v σ = ((sm C fn a).v σ).bind fun p => if mthK m p.1 then (sms C fn es p.2).bind fun q => (ofO (mthD m p.1 q.1)).bind fun z => .ok (z, q.2) else .bad := rfl
theorem x_spc {s : Spc} : (sm C fn (.spc s a)).v σ = ((sm C fn a).v σ).bind fun p => (ofO (spcD s p.1)).bind fun z => .ok (z, p.2) := rfl
theorem x_srtK : (sm C fn (.srtK j)).v σ = match σ[j]? with | some (.m _ m) => (ofO (keysM m)).bind fun ns => if ns.length < 64 then .ok (.list ((sortI ns).map .int), σ) else .bad | _ => .bad := rfl
theorem x_inP : (sm C fn (.inP j a)).v σ = ((sm C fn a).v σ).bind fun p => match p.2[j]? with | some (.m _ m) => (ofO (inM p.1 m)).bind fun z => .ok (.bool z, p.2) | _ => .bad := rfl
theorem t_inP : (sm C fn (.inP j a)).t σ = ((sm C fn (.inP j a)).v σ).bind fun p => (ofO (trD p.1)).bind fun t => .ok (t, p.2) := rfl
theorem x_lenP : (sm C fn (.lenP j)).v σ = match σ[j]? with | some (.m _ m) => (ofO (muLen m)).bind fun z => .ok (.int z, σ) | _ => .bad := rfl
theorem t_ite : (sm C fn (.ite c a b)).t σ = ((sm C fn c).t σ).bind fun p => match p.1 with | true => (sm C fn a).t p.2 | false => (sm C fn b).t p.2 := rfl
theorem t_chain : (sm C fn (.chain q1 q2 a b c)).t σ = ((sm C fn (.chain q1 q2 a b c)).v σ).bind fun p => (ofO (trD p.1)).bind fun t => .ok (t, p.2) := rfl
theorem t_isi : (sm C fn (.isi a t)).t σ = ((sm C fn (.isi a t)).v σ).bind fun p => (ofO (trD p.1)).bind fun t => .ok (t, p.2) := rfl
theorem t_call : (sm C fn (.call f es)).t σ = ((sm C fn (.call f es)).v σ).bind fun p => (ofO (trD p.1)).bind fun t => .ok (t, p.2) := rfl
theorem t_gq {k : Bool} {elt : Ex} {tg : Tg} {it : Ir} {cs : OEx} {own : List Nat} : (sm C fn (.gq k elt tg it cs own)).t σ = ((sm C fn (.gq k elt tg it cs own)).v σ).bind fun p => (ofO (trD p.1)).bind fun t => .ok (t, p.2) := rfl
theorem t_bl {x : Bool} : (sm C fn (.bl x)).t σ = .ok (x, σ) := rfl
theorem t_ix : (sm C fn (.ix a b)).t σ = ((sm C fn (.ix a b)).v σ).bind fun p => (ofO (trD p.1)).bind fun t => .ok (t, p.2) := rfl
theorem t_bin : (sm C fn (.bin o a b)).t σ = ((sm C fn (.bin o a b)).v σ).bind fun p => (ofO (trD p.1)).bind fun t => .ok (t, p.2) := rfl
theorem t_blt {g : Blt} : (sm C fn (.blt g es)).t σ = ((sm C fn (.blt g es)).v σ).bind fun p => (ofO (trD p.1)).bind fun t => .ok (t, p.2) := rfl
theorem i_range2 : smI C fn (.range2 a b) σ = ((sm C fn a).v σ).bind fun p => ((sm C fn b).v p.2).bind fun q => match p.1, q.1 with
    | .int i, .int j => if rOk i && rOk j then .ok (rangeD i (j - i).toNat, q.2) else .bad
    | _, _ => .bad := rfl
theorem it_l {xs : List D} : itemsD (.list xs) = some xs := rfl
theorem it_t {xs : List D} : itemsD (.tuple xs) = some xs := rfl
theorem i_zip : smI C fn (.zip a b) σ = ((sm C fn a).v σ).bind fun p => ((sm C fn b).v p.2).bind fun q => (ofO (itemsD p.1)).bind fun xs => (ofO (itemsD q.1)).bind fun ys => .ok (zipD xs ys, q.2) := rfl
theorem i_enumz : smI C fn (.enumz a b) σ = ((sm C fn a).v σ).bind fun p => ((sm C fn b).v p.2).bind fun q => (ofO (itemsD p.1)).bind fun xs => (ofO (itemsD q.1)).bind fun ys => .ok (enumD 0 (zipD xs ys), q.2) := rfl
theorem i_enum : smI C fn (.enum a) σ = ((sm C fn a).v σ).bind fun p => (ofO (itemsD p.1)).bind fun xs => .ok (enumD 0 xs, p.2) := rfl
theorem r_asg2 : run C sub fn (.asg2 i j a) σ = ((sm C fn a).v σ).bind fun p => .ok (.nx, (p.2.set i (.d p.1)).set j (.d p.1)) := rfl
theorem r_par2 : run C sub fn (.par2 i j a b) σ = ((sm C fn a).v σ).bind fun p => ((sm C fn b).v p.2).bind fun q => .ok (.nx, (q.2.set i (.d p.1)).set j (.d q.1)) := rfl
theorem r_aug : run C sub fn (.aug i o a) σ = match σ[i]? with
    | some (.d x) => ((sm C fn a).v σ).bind fun p => (ofO (binIp o x p.1)).bind fun z => .ok (.nx, p.2.set i (.d z))
    | _ => .bad := rfl
theorem r_parL : run C sub fn (.parL i j a b c) σ = ((sm C fn a).v σ).bind fun p => ((sm C fn b).v p.2).bind fun q => ((sm C fn c).v q.2).bind fun r => match q.1, r.1 with
    | .list xs, .int n => if repOk xs.length n then .ok (.nx, (r.2.set i (.d p.1)).set j (.m false (.l ((List.replicate n.toNat xs).flatten.map .d)))) else .bad
    | _, _ => .bad := rfl
theorem r_ownE : run C sub fn (.ownE i) σ = .ok (.nx, σ.set i (.m false (.k false []))) := rfl
theorem r_rem : run C sub fn (.rem j a) σ = if ownL σ[j]? then ((sm C fn a).v σ).bind fun p => match p.2[j]? with
      | some (.m q (.l xs)) => if SeqAt.shaped p.1 then (ofO (remD p.1 xs)).bind fun ys => .ok (.nx, p.2.set j (.m q (.l ys))) else .bad
      | _ => .bad
    else .bad := rfl
theorem r_ext : run C sub fn (.ext j a) σ = if ownL σ[j]? && isC a then ((sm C fn a).v σ).bind fun p => match p.2[j]? with
      | some (.m q (.l xs)) => match p.1 with
        | .list ys => if xs.length + ys.length ≤ LINE then .ok (.nx, p.2.set j (.m q (.l (xs ++ ys.map .d)))) else .bad
        | _ => .bad
      | _ => .bad
    else .bad := rfl
theorem r_augP {i : Ex} : run C sub fn (.augP j i o a) σ = if ownA σ[j]? then ((sm C fn i).v σ).bind fun p => match p.2[j]? with
      | some (.m _ m) => (ofO (muIx m p.1)).bind fun x => ((sm C fn a).v p.2).bind fun q => (ofO (binIp o x q.1)).bind fun z => match q.2[j]? with
        | some (.m f m) => (ofO (muSet m p.1 z)).bind fun m' => .ok (.nx, q.2.set j (.m f m'))
        | _ => .bad
      | _ => .bad
    else .bad := rfl
theorem r_ex : run C sub fn (.ex a) σ = ((sm C fn a).v σ).bind fun p => .ok (.nx, p.2) := rfl
theorem r_whl {y : List Cm} : run C sub fn (.whl c y) σ = whlL (sm C fn c).t (runs C sub fn y) FUEL σ := rfl
theorem r_raise {x y : Str} : run C sub fn (.raise x y) σ = if (x, x) ∈ sub then .exc x else .bad := rfl
theorem r_retO : run C sub fn (.retO i) σ = match σ[i]? with
    | some (.m false m) => .ok (.rt (.m m), σ.set i .u)
    | _ => .bad := rfl
theorem r_mv : run C sub fn (.mv i j) σ = match σ[j]? with
    | some (.m false m) => if i = j then .bad else .ok (.nx, (σ.set j .u).set i (.m false m))
    | _ => .bad := rfl
theorem r_brk : run C sub fn .brk σ = .ok (.bk, σ) := rfl
theorem r_cont : run C sub fn .cont σ = .ok (.ct, σ) := rfl
theorem r_pass : run C sub fn .pass σ = .ok (.nx, σ) := rfl
end
/-- a range, if it is one of the sizes that are covered -/
def rangeO (i j : Int) : Option (List D) := if rOk i && rOk j then some (rangeD i (j - i).toNat) else none
theorem rOk_0 : rOk 0 = true := by decide
theorem n_range1 {C : List (Str × D)} {fn : Fns} {a : Ex} {σ : En} : smI C fn (.range1 a) σ = ((sm C fn a).v σ).bind fun p => match p.1 with | .int j => (ofO (rangeO 0 j)).bind fun xs => .ok (xs, p.2) | _ => .bad := by
  rw [i_range1]
  congr 1
  funext p
  obtain ⟨x, s⟩ := p
  cases x <;> try rfl
  rename_i j
  show (if rOk j = true then Res.ok (rangeD 0 j.toNat, s) else .bad) = (ofO (if (rOk 0 && rOk j) = true then some (rangeD 0 (j - 0).toNat) else none)).bind fun xs => .ok (xs, s)
  rw [rOk_0, Bool.true_and, Int.sub_zero]
  generalize rOk j = z
  cases z <;> rfl
theorem n_range2 {C : List (Str × D)} {fn : Fns} {a b : Ex} {σ : En} : smI C fn (.range2 a b) σ = ((sm C fn a).v σ).bind fun p => ((sm C fn b).v p.2).bind fun q => match p.1, q.1 with
    | .int i, .int j => (ofO (rangeO i j)).bind fun xs => .ok (xs, q.2)
    | _, _ => .bad := by
  rw [i_range2]
  congr 1
  funext p
  congr 1
  funext q
  obtain ⟨x, s⟩ := p
  obtain ⟨y, t⟩ := q
  cases x <;> cases y <;> try rfl
  rename_i i j
  show (if (rOk i && rOk j) = true then Res.ok (rangeD i (j - i).toNat, t) else .bad) = (ofO (if (rOk i && rOk j) = true then some (rangeD i (j - i).toNat) else none)).bind fun xs => .ok (xs, t)
  generalize (rOk i && rOk j) = z
  cases z <;> rfl
theorem rO_ok {i j : Int} (hi : -1000000 ≤ i) (hj : j ≤ 1000000) (h : i ≤ j) : rangeO i j = some (rangeD i (j - i).toNat) := by
  unfold rangeO
  have e : (rOk i && rOk j) = true := by rw [Bool.and_eq_true]; exact ⟨inB_ok (by omega) (by omega), inB_ok (by omega) (by omega)⟩
  rw [e]; rfl
/-! ### values' rows -/
theorem dv_add {x y : D} : binD .add x y = addD x y := rfl
theorem dv_sub {x y : D} : binD .sub x y = subD x y := rfl
theorem dv_mul {x y : D} : binD .mul x y = mulD x y := rfl
theorem dv_fdiv {x y : D} : binD .fdiv x y = fdivD x y := rfl
theorem dv_mod {x y : D} : binD .mod x y = modD x y := rfl
theorem dv_pow {x y : D} : binD .pow x y = powD x y := rfl
theorem c_le {a b : Int} : cmpD .le (.int a) (.int b) = some (decide (a ≤ b)) := rfl
theorem c_gt {a b : Int} : cmpD .gt (.int a) (.int b) = some (decide (b < a)) := rfl
theorem c_eq {x y : D} : cmpD .eq x y = eqD x y := rfl
theorem c_ne {x y : D} : cmpD .ne x y = (eqD x y).map (!·) := rfl
theorem e_int {a b : Int} : eqD (.int a) (.int b) = some (a == b) := rfl
theorem e_str {a b : Str} : eqD (.str a) (.str b) = some (decide (a = b)) := rfl
theorem c_isN : cmpD .is .none .none = some true := rfl
theorem c_inN : cmpD .isnot .none .none = some false := rfl
theorem c_inB {a b : Bool} : cmpD .isnot (.bool a) (.bool b) = some (!decide (a = b)) := rfl
theorem c_isB {a b : Bool} : cmpD .is (.bool a) (.bool b) = some (decide (a = b)) := rfl
theorem tr_int {a : Int} : trD (.int a) = some (a != 0) := rfl
theorem tr_list {xs : List D} : trD (.list xs) = some (!xs.isEmpty) := rfl
theorem tr_none : trD .none = some false := rfl
theorem s_bool {a b : Bool} : subD (.bool a) (.bool b) = some (.int (b2 a - b2 b)) := rfl
theorem b_bool {a : Bool} : bltD .int [.bool a] = some (.int (b2 a)) := rfl
theorem b_abs {a : Int} : bltD .abs [.int a] = some (.int (if a < 0 then -a else a)) := rfl
theorem ip_int {a b : Int} : binIp .add (.int a) (.int b) = some (.int (a + b)) := rfl
theorem ip_sub {a b : Int} : binIp .sub (.int a) (.int b) = some (.int (a - b)) := rfl
theorem rangeD_map : ∀ (n : Nat) (lo : Nat), rangeD (lo : Int) n = (List.range' lo n).map fun j : Nat => PyData.int (j : Int)
  | 0, _ => rfl
  | n + 1, lo => by
    rw [rangeD, List.range'_succ, List.map_cons]
    have := rangeD_map n (lo + 1)
    rw [Int.natCast_add] at this
    exact congrArg _ this
theorem rangeD0 (n : Nat) : rangeD 0 n = (List.range n).map fun j : Nat => PyData.int (j : Int) := by
  rw [List.range_eq_range']
  exact rangeD_map n 0
theorem rO_0 (n : Nat) (h : n ≤ 1000000) : rangeO 0 (n : Int) = some ((List.range n).map fun j : Nat => PyData.int (j : Int)) := by
  rw [rO_ok (by omega) (by omega) (by omega), Int.sub_zero, Int.toNat_natCast, rangeD0]
theorem rO_s (n : Nat) (h : n < 1000000) : rangeO 0 ((n : Int) + 1) = some ((List.range (n + 1)).map fun j : Nat => PyData.int (j : Int)) := rO_0 (n + 1) h
theorem rO_1 (n : Nat) (h : n < 1000000) : rangeO 1 (n : Int) = some ((List.range' 1 (n - 1)).map fun j : Nat => PyData.int (j : Int)) := by
  unfold rangeO
  have e : (rOk 1 && rOk (n : Int)) = true := by rw [Bool.and_eq_true]; exact ⟨inB_ok (by omega) (by omega), inB_ok (by omega) (by omega)⟩
  have e2 : ((n : Int) - 1).toNat = n - 1 := by omega
  rw [e, if_pos rfl, e2]
  exact congrArg some (rangeD_map (n - 1) 1)
theorem len_le {xs : List D} {n : Nat} (h : xs.length = n) (hn : n ≤ LINE) : (xs.length ≤ LINE) = True := eq_true (by rw [h]; exact hn)
theorem le_1 {a : D} : ([a].length ≤ LINE) = True := eq_true (by show 1 ≤ LINE; decide)
theorem le_2 {a b : D} : ([a, b].length ≤ LINE) = True := eq_true (by show 2 ≤ LINE; decide)
theorem le_3 {a b c : D} : ([a, b, c].length ≤ LINE) = True := eq_true (by show 3 ≤ LINE; decide)
theorem le_4 {a b c d : D} : ([a, b, c, d].length ≤ LINE) = True := eq_true (by show 4 ≤ LINE; decide)
end N
/-! N24: fractions, pairs of ints in lowest terms, as rational numbers. -/
namespace N
open PySem
def fr (q : Rat) : D := .tuple [.int q.num, .int (q.den : Nat)]
instance : Em Rat := ⟨fr, 1, fun _ => rfl, fun _ => Nat.le_refl _, fun a b => by
  show PyData.eqvAll [_, _] [_, _] = _
  rw [PyData.eqvAll, PyData.eqvAll, PyData.eqvAll, PyData.eqv, PyData.eqv, Bool.and_true, Bool.eq_iff_iff]
  simp only [Bool.and_eq_true, beq_iff_eq, decide_eq_true_eq]
  constructor
  · rintro ⟨h1, h2⟩
    exact Rat.ext h1 (by omega)
  · rintro rfl
    exact ⟨rfl, rfl⟩⟩
theorem eq_fr (p q : Rat) : eqD (fr p) (fr q) = some (decide (p = q)) := eqD_e (α := Rat) (by decide) p q
theorem eq_frs (p q : List Rat) : eqD (.list (p.map fr)) (.list (q.map fr)) = some (decide (p = q)) := eqD_e (α := List Rat) (by decide) p q
theorem ix_fr0 (q : Rat) : idxD (fr q) (.int 0) = some (.int q.num) := rfl
theorem ix_fr1 (q : Rat) : idxD (fr q) (.int 1) = some (.int (q.den : Nat)) := rfl
/-! ### sizes -/
def sz (k : Nat) (q : Rat) : Prop := q.num.natAbs < 2 ^ k ∧ q.den < 2 ^ k
theorem log2_le {n k : Nat} (h : n < 2 ^ k) : n.log2 ≤ k := by
  by_cases z : n = 0
  · subst z; simp
  · exact Nat.le_of_lt ((Nat.log2_lt z).mpr h)
theorem mulOk_sz {a b : Int} {i j : Nat} (ha : a.natAbs < 2 ^ i) (hb : b.natAbs < 2 ^ j) (h : i + j < 1000000) : mulOk a b = true := by
  unfold mulOk
  rw [Bool.or_eq_true, Bool.or_eq_true]
  refine .inr (.inr (decide_eq_true ?_))
  have := log2_le ha
  have := log2_le hb
  omega
theorem sz_mono {i j : Nat} {q : Rat} (h : sz i q) (hij : i ≤ j) : sz j q := ⟨Nat.lt_of_lt_of_le h.1 (Nat.pow_le_pow_right (by decide) hij), Nat.lt_of_lt_of_le h.2 (Nat.pow_le_pow_right (by decide) hij)⟩
theorem sz_divInt {a b : Int} {k : Nat} (hk : 0 < k) (ha : a.natAbs < 2 ^ k) (hb : b.natAbs < 2 ^ k) : sz k (Rat.divInt a b) := by
  constructor
  · rw [Rat.num_divInt]
    have h1 : (b.sign * a / ((b.gcd a : Nat) : Int)).natAbs ≤ (b.sign * a).natAbs := Int.natAbs_ediv_le_natAbs _ _
    have h2 : (b.sign * a).natAbs ≤ a.natAbs := by
      rw [Int.natAbs_mul, Int.natAbs_sign]
      split
      · simp
      · simp
    omega
  · rw [Rat.den_divInt]
    split
    · exact Nat.one_lt_two_pow (by omega)
    · exact Nat.lt_of_le_of_lt (Nat.div_le_self _ _) hb
/-! ### the greatest common divisor -/
theorem fmod_abs {a b : Int} (h : b ≠ 0) : (a.fmod b).natAbs < b.natAbs := by
  rcases Int.lt_or_gt_of_ne h with hb | hb
  · have e : a.fmod b = -((-a).fmod (-b)) := by
      rw [Int.fmod_def, Int.fmod_def, Int.neg_fdiv_neg, Int.neg_mul]
      omega
    have h1 := Int.fmod_lt_of_pos (-a) (b := -b) (by omega)
    have h2 : 0 ≤ (-a).fmod (-b) := by
      rw [Int.fmod_eq_emod_of_nonneg _ (by omega)]
      exact Int.emod_nonneg _ (by omega)
    omega
  · have h1 := Int.fmod_lt_of_pos a (b := b) hb
    have h2 : 0 ≤ a.fmod b := by
      rw [Int.fmod_eq_emod_of_nonneg _ (by omega)]
      exact Int.emod_nonneg _ (by omega)
    omega
theorem gcd_fmod (a b : Int) : Int.gcd b (a.fmod b) = Int.gcd a b := by
  rw [Int.fmod_def, Int.mul_comm, Int.gcd_sub_mul_right_right, Int.gcd_comm]
theorem gcd_loop {c : En → Res (Bool × En)} {b : Rn} (hc : ∀ x y : Int, c [.d (.int x), .d (.int y)] = .ok (y != 0, [.d (.int x), .d (.int y)])) (hb : ∀ x y : Int, y ≠ 0 → b [.d (.int x), .d (.int y)] = .ok (.nx, [.d (.int y), .d (.int (x.fmod y))])) :
    ∀ (n : Nat) (x y : Int), y.natAbs < n → ∃ g : Int, whlL c b n [.d (.int x), .d (.int y)] = .ok (.nx, [.d (.int g), .d (.int 0)]) ∧ g.natAbs = Int.gcd x y
  | 0, x, y, h => absurd h (Nat.not_lt_zero _)
  | n + 1, x, y, h => by
    rw [whlL, hc, ok_bind]
    by_cases z : y = 0
    · subst z
      exact ⟨x, rfl, by simp⟩
    · have q : (y != 0) = true := by simpa using z
      rw [q]
      show ∃ g, ((b [.d (.int x), .d (.int y)]).bind _) = _ ∧ _
      rw [hb x y z, ok_bind]
      obtain ⟨g, e, hg⟩ := gcd_loop hc hb n y (x.fmod y) (by have := fmod_abs (a := x) z; omega)
      exact ⟨g, e, by rw [hg, gcd_fmod]⟩
def bCommon : List Cm := [.whl (.v 1) [.par2 0 1 (.v 1) (.bin .mod (.v 0) (.v 1))], .fgt [1], .ret (.blt .abs [(.v 0)])]
def bCommonL : List Cm := [.whl (.cmp .ne (.v 1) (.int 0)) [.par2 0 1 (.v 1) (.bin .mod (.v 0) (.v 1))], .fgt [1], .ret (.blt .abs [(.v 0)])]
section
variable {P : Pg} {f g h : Nat} {k : Nat}
theorem abs_of (g : Int) : (if g < 0 then -g else g) = (g.natAbs : Nat) := by split <;> omega
theorem w_common (hg : P.fns[g]? = some ⟨"common_divisor", 2, ["one", "two"], false, none, bCommon⟩) (a b : Int) (hb : b.natAbs < FUEL) : callF P (k + 1) g [.d (.int a), .d (.int b)] = .ok (.d (.int (Int.gcd a b : Nat)), none) := by
  rw [call_eq hg ⟨rfl, rfl⟩]
  show (runs P.C P.sub (callF P k) bCommon [.d (.int a), .d (.int b)]).bind _ = _
  obtain ⟨z, e, hz⟩ := gcd_loop (c := (sm P.C (callF P k) (.v 1)).t) (b := runs P.C P.sub (callF P k) [.par2 0 1 (.v 1) (.bin .mod (.v 0) (.v 1))]) (fun x y => by simp only [it_l, it_t, rs_cons, rs_nil, r_asg, r_asg2, r_par2, r_aug, r_own, r_ownC, r_app, r_setP, r_ifs, r_for, r_fgt, r_ret, r_retD, r_retO, r_mv, r_ex, r_brk, r_cont, r_pass, x_v, x_fz, x_int, x_str, x_bl, x_non, x_neg, x_bin, x_cmp, x_chain, x_bop, x_not, x_ite, x_ix, x_sl, xo_no, xo_so, x_tup, x_lst, x_call, x_blt, x_isi, x_mth, x_ixP, x_lenP, x_spc, x_srtK, x_inP, t_inP, r_ownE, r_rem, r_ext, r_augP, r_parL, xs_nil, xs_cons, t_cmp, t_v, t_not, t_bop, t_ite, t_chain, t_isi, t_call, t_gq, t_bl, t_ix, t_bin, t_blt, i_of, n_range1, n_range2, i_zip, i_enum, i_enumz, xc_no, xc_so, fl_nil, fl_cons, bt_n, bt_2, bt_3, wipeE, keepS, backE, ok_bind, ofO_some, datO, List.getElem?_cons_zero, List.getElem?_cons_succ, List.set_cons_zero, List.set_cons_succ, List.map_cons, List.map_nil, dv_add, dv_sub, dv_mul, dv_fdiv, dv_mod, dv_pow, a_int, s_int, d_int, c_le, c_lt, c_gt, c_ge, c_eq, c_ne, e_int, tr_bool, tr_int, tr_none, s_bool, b_bool, b_abs, ip_int, ip_sub, if_true, if_false, eq_self, Bool.not_true, Bool.not_false, Bool.false_eq_true, Bool.true_eq_false, le_0, le_1, le_2, le_3, le_4, ic_lst, endE, Option.map_some, Option.bind_some]) (fun x y hy => by simp only [it_l, it_t, rs_cons, rs_nil, r_asg, r_asg2, r_par2, r_aug, r_own, r_ownC, r_app, r_setP, r_ifs, r_for, r_fgt, r_ret, r_retD, r_retO, r_mv, r_ex, r_brk, r_cont, r_pass, x_v, x_fz, x_int, x_str, x_bl, x_non, x_neg, x_bin, x_cmp, x_chain, x_bop, x_not, x_ite, x_ix, x_sl, xo_no, xo_so, x_tup, x_lst, x_call, x_blt, x_isi, x_mth, x_ixP, x_lenP, x_spc, x_srtK, x_inP, t_inP, r_ownE, r_rem, r_ext, r_augP, r_parL, xs_nil, xs_cons, t_cmp, t_v, t_not, t_bop, t_ite, t_chain, t_isi, t_call, t_gq, t_bl, t_ix, t_bin, t_blt, i_of, n_range1, n_range2, i_zip, i_enum, i_enumz, xc_no, xc_so, fl_nil, fl_cons, bt_n, bt_2, bt_3, wipeE, keepS, backE, ok_bind, ofO_some, datO, List.getElem?_cons_zero, List.getElem?_cons_succ, List.set_cons_zero, List.set_cons_succ, List.map_cons, List.map_nil, dv_add, dv_sub, dv_mul, dv_fdiv, dv_mod, dv_pow, a_int, s_int, d_int, c_le, c_lt, c_gt, c_ge, c_eq, c_ne, e_int, tr_bool, tr_int, tr_none, s_bool, b_bool, b_abs, ip_int, ip_sub, if_true, if_false, eq_self, Bool.not_true, Bool.not_false, Bool.false_eq_true, Bool.true_eq_false, le_0, le_1, le_2, le_3, le_4, ic_lst, endE, Option.map_some, Option.bind_some, d_mod (a := x) hy]) FUEL a b hb
  unfold bCommon
  simp only [it_l, it_t, rs_cons, rs_nil, r_asg, r_asg2, r_par2, r_aug, r_own, r_ownC, r_app, r_setP, r_ifs, r_for, r_fgt, r_ret, r_retD, r_retO, r_mv, r_ex, r_brk, r_cont, r_pass, x_v, x_fz, x_int, x_str, x_bl, x_non, x_neg, x_bin, x_cmp, x_chain, x_bop, x_not, x_ite, x_ix, x_sl, xo_no, xo_so, x_tup, x_lst, x_call, x_blt, x_isi, x_mth, x_ixP, x_lenP, x_spc, x_srtK, x_inP, t_inP, r_ownE, r_rem, r_ext, r_augP, r_parL, xs_nil, xs_cons, t_cmp, t_v, t_not, t_bop, t_ite, t_chain, t_isi, t_call, t_gq, t_bl, t_ix, t_bin, t_blt, i_of, n_range1, n_range2, i_zip, i_enum, i_enumz, xc_no, xc_so, fl_nil, fl_cons, bt_n, bt_2, bt_3, wipeE, keepS, backE, ok_bind, ofO_some, datO, List.getElem?_cons_zero, List.getElem?_cons_succ, List.set_cons_zero, List.set_cons_succ, List.map_cons, List.map_nil, dv_add, dv_sub, dv_mul, dv_fdiv, dv_mod, dv_pow, a_int, s_int, d_int, c_le, c_lt, c_gt, c_ge, c_eq, c_ne, e_int, tr_bool, tr_int, tr_none, s_bool, b_bool, b_abs, ip_int, ip_sub, if_true, if_false, eq_self, Bool.not_true, Bool.not_false, Bool.false_eq_true, Bool.true_eq_false, le_0, le_1, le_2, le_3, le_4, ic_lst, endE, Option.map_some, Option.bind_some, r_whl, e, abs_of, hz]
theorem w_commonL (hg : P.fns[g]? = some ⟨"_law_common", 2, ["one", "two"], false, none, bCommonL⟩) (a b : Int) (hb : b.natAbs < FUEL) : callF P (k + 1) g [.d (.int a), .d (.int b)] = .ok (.d (.int (Int.gcd a b : Nat)), none) := by
  rw [call_eq hg ⟨rfl, rfl⟩]
  show (runs P.C P.sub (callF P k) bCommonL [.d (.int a), .d (.int b)]).bind _ = _
  have ne : ∀ y : Int, (!(y == 0)) = (y != 0) := fun y => rfl
  obtain ⟨z, e, hz⟩ := gcd_loop (c := (sm P.C (callF P k) (.cmp .ne (.v 1) (.int 0))).t) (b := runs P.C P.sub (callF P k) [.par2 0 1 (.v 1) (.bin .mod (.v 0) (.v 1))]) (fun x y => by simp only [it_l, it_t, rs_cons, rs_nil, r_asg, r_asg2, r_par2, r_aug, r_own, r_ownC, r_app, r_setP, r_ifs, r_for, r_fgt, r_ret, r_retD, r_retO, r_mv, r_ex, r_brk, r_cont, r_pass, x_v, x_fz, x_int, x_str, x_bl, x_non, x_neg, x_bin, x_cmp, x_chain, x_bop, x_not, x_ite, x_ix, x_sl, xo_no, xo_so, x_tup, x_lst, x_call, x_blt, x_isi, x_mth, x_ixP, x_lenP, x_spc, x_srtK, x_inP, t_inP, r_ownE, r_rem, r_ext, r_augP, r_parL, xs_nil, xs_cons, t_cmp, t_v, t_not, t_bop, t_ite, t_chain, t_isi, t_call, t_gq, t_bl, t_ix, t_bin, t_blt, i_of, n_range1, n_range2, i_zip, i_enum, i_enumz, xc_no, xc_so, fl_nil, fl_cons, bt_n, bt_2, bt_3, wipeE, keepS, backE, ok_bind, ofO_some, datO, List.getElem?_cons_zero, List.getElem?_cons_succ, List.set_cons_zero, List.set_cons_succ, List.map_cons, List.map_nil, dv_add, dv_sub, dv_mul, dv_fdiv, dv_mod, dv_pow, a_int, s_int, d_int, c_le, c_lt, c_gt, c_ge, c_eq, c_ne, e_int, tr_bool, tr_int, tr_none, s_bool, b_bool, b_abs, ip_int, ip_sub, if_true, if_false, eq_self, Bool.not_true, Bool.not_false, Bool.false_eq_true, Bool.true_eq_false, le_0, le_1, le_2, le_3, le_4, ic_lst, endE, Option.map_some, Option.bind_some, ne]) (fun x y hy => by simp only [it_l, it_t, rs_cons, rs_nil, r_asg, r_asg2, r_par2, r_aug, r_own, r_ownC, r_app, r_setP, r_ifs, r_for, r_fgt, r_ret, r_retD, r_retO, r_mv, r_ex, r_brk, r_cont, r_pass, x_v, x_fz, x_int, x_str, x_bl, x_non, x_neg, x_bin, x_cmp, x_chain, x_bop, x_not, x_ite, x_ix, x_sl, xo_no, xo_so, x_tup, x_lst, x_call, x_blt, x_isi, x_mth, x_ixP, x_lenP, x_spc, x_srtK, x_inP, t_inP, r_ownE, r_rem, r_ext, r_augP, r_parL, xs_nil, xs_cons, t_cmp, t_v, t_not, t_bop, t_ite, t_chain, t_isi, t_call, t_gq, t_bl, t_ix, t_bin, t_blt, i_of, n_range1, n_range2, i_zip, i_enum, i_enumz, xc_no, xc_so, fl_nil, fl_cons, bt_n, bt_2, bt_3, wipeE, keepS, backE, ok_bind, ofO_some, datO, List.getElem?_cons_zero, List.getElem?_cons_succ, List.set_cons_zero, List.set_cons_succ, List.map_cons, List.map_nil, dv_add, dv_sub, dv_mul, dv_fdiv, dv_mod, dv_pow, a_int, s_int, d_int, c_le, c_lt, c_gt, c_ge, c_eq, c_ne, e_int, tr_bool, tr_int, tr_none, s_bool, b_bool, b_abs, ip_int, ip_sub, if_true, if_false, eq_self, Bool.not_true, Bool.not_false, Bool.false_eq_true, Bool.true_eq_false, le_0, le_1, le_2, le_3, le_4, ic_lst, endE, Option.map_some, Option.bind_some, d_mod (a := x) hy]) FUEL a b hb
  unfold bCommonL
  simp only [it_l, it_t, rs_cons, rs_nil, r_asg, r_asg2, r_par2, r_aug, r_own, r_ownC, r_app, r_setP, r_ifs, r_for, r_fgt, r_ret, r_retD, r_retO, r_mv, r_ex, r_brk, r_cont, r_pass, x_v, x_fz, x_int, x_str, x_bl, x_non, x_neg, x_bin, x_cmp, x_chain, x_bop, x_not, x_ite, x_ix, x_sl, xo_no, xo_so, x_tup, x_lst, x_call, x_blt, x_isi, x_mth, x_ixP, x_lenP, x_spc, x_srtK, x_inP, t_inP, r_ownE, r_rem, r_ext, r_augP, r_parL, xs_nil, xs_cons, t_cmp, t_v, t_not, t_bop, t_ite, t_chain, t_isi, t_call, t_gq, t_bl, t_ix, t_bin, t_blt, i_of, n_range1, n_range2, i_zip, i_enum, i_enumz, xc_no, xc_so, fl_nil, fl_cons, bt_n, bt_2, bt_3, wipeE, keepS, backE, ok_bind, ofO_some, datO, List.getElem?_cons_zero, List.getElem?_cons_succ, List.set_cons_zero, List.set_cons_succ, List.map_cons, List.map_nil, dv_add, dv_sub, dv_mul, dv_fdiv, dv_mod, dv_pow, a_int, s_int, d_int, c_le, c_lt, c_gt, c_ge, c_eq, c_ne, e_int, tr_bool, tr_int, tr_none, s_bool, b_bool, b_abs, ip_int, ip_sub, if_true, if_false, eq_self, Bool.not_true, Bool.not_false, Bool.false_eq_true, Bool.true_eq_false, le_0, le_1, le_2, le_3, le_4, ic_lst, endE, Option.map_some, Option.bind_some, r_whl, e, abs_of, hz]
def bFrac (g : Nat) : List Cm := [
  .ifs (.cmp .lt (.v 1) (.int 0)) [.par2 0 1 (.neg (.v 0)) (.neg (.v 1))] [],
  .asg (.n 2) (.call g [(.v 0), (.v 1)]),
  .ret (.tup [(.bin .fdiv (.v 0) (.v 2)), (.bin .fdiv (.v 1) (.v 2))])]
def bFracL (g : Nat) : List Cm := [
  .asg (.n 2) (.call g [(.v 0), (.v 1)]),
  .asg (.n 3) (.ite (.cmp .gt (.v 1) (.int 0)) (.int 1) (.neg (.int 1))),
  .ret (.tup [(.bin .fdiv (.bin .mul (.v 3) (.v 0)) (.v 2)), (.bin .fdiv (.bin .mul (.v 3) (.v 1)) (.v 2))])]
theorem fuel_pow {j : Nat} (h : j ≤ 200) {n : Nat} (hn : n < 2 ^ j) : n < FUEL := Nat.lt_of_lt_of_le hn (Nat.pow_le_pow_right (by decide) h)
theorem gcd_small {a b : Int} (h : b ≠ 0) (hb : b.natAbs < 2 ^ 200) : divOk ((Int.gcd a b : Nat) : Int) = true := by
  have hp : 0 < Int.gcd a b := Int.gcd_pos_of_ne_zero_right a h
  have hd : Int.gcd a b ≤ b.natAbs := Nat.le_of_dvd (by omega) (Int.gcd_dvd_natAbs_right a b)
  unfold divOk
  rw [Bool.and_eq_true, Bool.or_eq_true, Bool.and_eq_true]
  refine ⟨decide_eq_true (by omega), .inr ⟨decide_eq_true (by omega), decide_eq_true ?_⟩⟩
  have := log2_le (n := (((Int.gcd a b : Nat) : Int).natAbs)) (k := 200) (by rw [Int.natAbs_natCast]; omega)
  omega
/-- the two parts, in lowest terms -/
theorem parts_pos {a b : Int} (h : 0 < b) : (PyData.tuple [.int (a.fdiv (Int.gcd a b : Nat)), .int (b.fdiv (Int.gcd a b : Nat))] : D) = fr (Rat.divInt a b) := by
  unfold fr
  rw [Rat.num_divInt, Rat.den_divInt, if_neg (by omega), Int.sign_eq_one_of_pos h, Int.one_mul, Int.gcd_comm b a, Int.fdiv_eq_ediv_of_nonneg _ (by omega), Int.fdiv_eq_ediv_of_nonneg _ (by omega), Int.natCast_ediv]
  have e : ((b.natAbs : Nat) : Int) = b := by omega
  rw [e]
theorem divInt_nn (a b : Int) : Rat.divInt (-a) (-b) = Rat.divInt a b := by
  rw [Rat.divInt_eq_div, Rat.divInt_eq_div, Rat.intCast_neg, Rat.intCast_neg]
  by_cases h : (b : Rat) = 0
  · rw [h]; grind
  · grind
theorem w_frac (hf : P.fns[f]? = some ⟨"fraction", 2, ["above", "below", "common"], false, none, bFrac g⟩) (hg : P.fns[g]? = some ⟨"common_divisor", 2, ["one", "two"], false, none, bCommon⟩) (a b : Int) (h0 : b ≠ 0) (hb : b.natAbs < 2 ^ 200) :
    callF P (k + 2) f [.d (.int a), .d (.int b)] = .ok (.d (fr (Rat.divInt a b)), none) := by
  rw [call_eq hf ⟨rfl, rfl⟩]
  show (runs P.C P.sub (callF P (k + 1)) (bFrac g) [.d (.int a), .d (.int b), .u]).bind _ = _
  unfold bFrac
  rcases Int.lt_or_gt_of_ne h0 with h | h
  · have c := w_common (k := k) hg (-a) (-b) (fuel_pow (Nat.le_refl 200) (by rw [Int.natAbs_neg]; exact hb))
    have d := gcd_small (a := -a) (b := -b) (by omega) (by rw [Int.natAbs_neg]; exact hb)
    have pp := parts_pos (a := -a) (b := -b) (by omega)
    rw [divInt_nn] at pp
    simp only [it_l, it_t, rs_cons, rs_nil, r_asg, r_asg2, r_par2, r_aug, r_own, r_ownC, r_app, r_setP, r_ifs, r_for, r_fgt, r_ret, r_retD, r_retO, r_mv, r_ex, r_brk, r_cont, r_pass, x_v, x_fz, x_int, x_str, x_bl, x_non, x_neg, x_bin, x_cmp, x_chain, x_bop, x_not, x_ite, x_ix, x_sl, xo_no, xo_so, x_tup, x_lst, x_call, x_blt, x_isi, x_mth, x_ixP, x_lenP, x_spc, x_srtK, x_inP, t_inP, r_ownE, r_rem, r_ext, r_augP, r_parL, xs_nil, xs_cons, t_cmp, t_v, t_not, t_bop, t_ite, t_chain, t_isi, t_call, t_gq, t_bl, t_ix, t_bin, t_blt, i_of, n_range1, n_range2, i_zip, i_enum, i_enumz, xc_no, xc_so, fl_nil, fl_cons, bt_n, bt_2, bt_3, wipeE, keepS, backE, ok_bind, ofO_some, datO, List.getElem?_cons_zero, List.getElem?_cons_succ, List.set_cons_zero, List.set_cons_succ, List.map_cons, List.map_nil, dv_add, dv_sub, dv_mul, dv_fdiv, dv_mod, dv_pow, a_int, s_int, d_int, c_le, c_lt, c_gt, c_ge, c_eq, c_ne, e_int, tr_bool, tr_int, tr_none, s_bool, b_bool, b_abs, ip_int, ip_sub, if_true, if_false, eq_self, Bool.not_true, Bool.not_false, Bool.false_eq_true, Bool.true_eq_false, le_0, le_1, le_2, le_3, le_4, ic_lst, endE, Option.map_some, Option.bind_some, decide_eq_true h, c, d_fdiv (a := -a) d, d_fdiv (a := -b) d, pp]
  · have c := w_common (k := k) hg a b (fuel_pow (Nat.le_refl 200) hb)
    have d := gcd_small (a := a) (b := b) h0 hb
    have pp := parts_pos (a := a) (b := b) h
    simp only [it_l, it_t, rs_cons, rs_nil, r_asg, r_asg2, r_par2, r_aug, r_own, r_ownC, r_app, r_setP, r_ifs, r_for, r_fgt, r_ret, r_retD, r_retO, r_mv, r_ex, r_brk, r_cont, r_pass, x_v, x_fz, x_int, x_str, x_bl, x_non, x_neg, x_bin, x_cmp, x_chain, x_bop, x_not, x_ite, x_ix, x_sl, xo_no, xo_so, x_tup, x_lst, x_call, x_blt, x_isi, x_mth, x_ixP, x_lenP, x_spc, x_srtK, x_inP, t_inP, r_ownE, r_rem, r_ext, r_augP, r_parL, xs_nil, xs_cons, t_cmp, t_v, t_not, t_bop, t_ite, t_chain, t_isi, t_call, t_gq, t_bl, t_ix, t_bin, t_blt, i_of, n_range1, n_range2, i_zip, i_enum, i_enumz, xc_no, xc_so, fl_nil, fl_cons, bt_n, bt_2, bt_3, wipeE, keepS, backE, ok_bind, ofO_some, datO, List.getElem?_cons_zero, List.getElem?_cons_succ, List.set_cons_zero, List.set_cons_succ, List.map_cons, List.map_nil, dv_add, dv_sub, dv_mul, dv_fdiv, dv_mod, dv_pow, a_int, s_int, d_int, c_le, c_lt, c_gt, c_ge, c_eq, c_ne, e_int, tr_bool, tr_int, tr_none, s_bool, b_bool, b_abs, ip_int, ip_sub, if_true, if_false, eq_self, Bool.not_true, Bool.not_false, Bool.false_eq_true, Bool.true_eq_false, le_0, le_1, le_2, le_3, le_4, ic_lst, endE, Option.map_some, Option.bind_some, decide_eq_false (show ¬ b < 0 by omega), c, d_fdiv (a := a) d, d_fdiv (a := b) d, pp]
theorem mulOk_l1 {b : Int} : mulOk 1 b = true := by unfold mulOk; rw [Bool.or_eq_true]; exact .inl (by decide)
theorem mulOk_m1 {b : Int} : mulOk (-1) b = true := by unfold mulOk; rw [Bool.or_eq_true]; exact .inl (by decide)
theorem w_fracL (hf : P.fns[f]? = some ⟨"_law_fraction", 2, ["one", "two", "common", "sign"], false, none, bFracL g⟩) (hg : P.fns[g]? = some ⟨"_law_common", 2, ["one", "two"], false, none, bCommonL⟩) (a b : Int) (h0 : b ≠ 0) (hb : b.natAbs < 2 ^ 200) :
    callF P (k + 2) f [.d (.int a), .d (.int b)] = .ok (.d (fr (Rat.divInt a b)), none) := by
  rw [call_eq hf ⟨rfl, rfl⟩]
  show (runs P.C P.sub (callF P (k + 1)) (bFracL g) [.d (.int a), .d (.int b), .u, .u]).bind _ = _
  unfold bFracL
  have c := w_commonL (k := k) hg a b (fuel_pow (Nat.le_refl 200) hb)
  have d := gcd_small (a := a) (b := b) h0 hb
  rcases Int.lt_or_gt_of_ne h0 with h | h
  · have pp := parts_pos (a := -a) (b := -b) (by omega)
    rw [divInt_nn, Int.neg_gcd, Int.gcd_neg] at pp
    have m1 : ∀ x : Int, mulD (.int (-1)) (.int x) = some (.int (-x)) := fun x => (d_mul mulOk_m1).trans (by rw [Int.neg_one_mul])
    simp only [it_l, it_t, rs_cons, rs_nil, r_asg, r_asg2, r_par2, r_aug, r_own, r_ownC, r_app, r_setP, r_ifs, r_for, r_fgt, r_ret, r_retD, r_retO, r_mv, r_ex, r_brk, r_cont, r_pass, x_v, x_fz, x_int, x_str, x_bl, x_non, x_neg, x_bin, x_cmp, x_chain, x_bop, x_not, x_ite, x_ix, x_sl, xo_no, xo_so, x_tup, x_lst, x_call, x_blt, x_isi, x_mth, x_ixP, x_lenP, x_spc, x_srtK, x_inP, t_inP, r_ownE, r_rem, r_ext, r_augP, r_parL, xs_nil, xs_cons, t_cmp, t_v, t_not, t_bop, t_ite, t_chain, t_isi, t_call, t_gq, t_bl, t_ix, t_bin, t_blt, i_of, n_range1, n_range2, i_zip, i_enum, i_enumz, xc_no, xc_so, fl_nil, fl_cons, bt_n, bt_2, bt_3, wipeE, keepS, backE, ok_bind, ofO_some, datO, List.getElem?_cons_zero, List.getElem?_cons_succ, List.set_cons_zero, List.set_cons_succ, List.map_cons, List.map_nil, dv_add, dv_sub, dv_mul, dv_fdiv, dv_mod, dv_pow, a_int, s_int, d_int, c_le, c_lt, c_gt, c_ge, c_eq, c_ne, e_int, tr_bool, tr_int, tr_none, s_bool, b_bool, b_abs, ip_int, ip_sub, if_true, if_false, eq_self, Bool.not_true, Bool.not_false, Bool.false_eq_true, Bool.true_eq_false, le_0, le_1, le_2, le_3, le_4, ic_lst, endE, Option.map_some, Option.bind_some, decide_eq_false (show ¬ 0 < b by omega), c, m1, d_fdiv (a := -a) d, d_fdiv (a := -b) d, pp]
  · have pp := parts_pos (a := a) (b := b) h
    have m1 : ∀ x : Int, mulD (.int 1) (.int x) = some (.int x) := fun x => (d_mul mulOk_l1).trans (by rw [Int.one_mul])
    simp only [it_l, it_t, rs_cons, rs_nil, r_asg, r_asg2, r_par2, r_aug, r_own, r_ownC, r_app, r_setP, r_ifs, r_for, r_fgt, r_ret, r_retD, r_retO, r_mv, r_ex, r_brk, r_cont, r_pass, x_v, x_fz, x_int, x_str, x_bl, x_non, x_neg, x_bin, x_cmp, x_chain, x_bop, x_not, x_ite, x_ix, x_sl, xo_no, xo_so, x_tup, x_lst, x_call, x_blt, x_isi, x_mth, x_ixP, x_lenP, x_spc, x_srtK, x_inP, t_inP, r_ownE, r_rem, r_ext, r_augP, r_parL, xs_nil, xs_cons, t_cmp, t_v, t_not, t_bop, t_ite, t_chain, t_isi, t_call, t_gq, t_bl, t_ix, t_bin, t_blt, i_of, n_range1, n_range2, i_zip, i_enum, i_enumz, xc_no, xc_so, fl_nil, fl_cons, bt_n, bt_2, bt_3, wipeE, keepS, backE, ok_bind, ofO_some, datO, List.getElem?_cons_zero, List.getElem?_cons_succ, List.set_cons_zero, List.set_cons_succ, List.map_cons, List.map_nil, dv_add, dv_sub, dv_mul, dv_fdiv, dv_mod, dv_pow, a_int, s_int, d_int, c_le, c_lt, c_gt, c_ge, c_eq, c_ne, e_int, tr_bool, tr_int, tr_none, s_bool, b_bool, b_abs, ip_int, ip_sub, if_true, if_false, eq_self, Bool.not_true, Bool.not_false, Bool.false_eq_true, Bool.true_eq_false, le_0, le_1, le_2, le_3, le_4, ic_lst, endE, Option.map_some, Option.bind_some, decide_eq_true h, c, m1, d_fdiv (a := a) d, d_fdiv (a := b) d, pp]
/-! ### less -/
def bLess : List Cm := [.ret (.cmp .lt (.bin .mul (.ix (.v 0) (.int 0)) (.ix (.v 1) (.int 1))) (.bin .mul (.ix (.v 1) (.int 0)) (.ix (.v 0) (.int 1))))]
theorem w_less {nm : Str} (hf : P.fns[f]? = some ⟨nm, 2, ["one", "two"], false, none, bLess⟩) {i : Nat} (hi : i < 400000) (p q : Rat) (hp : sz i p) (hq : sz i q) : callF P (k + 1) f [.d (fr p), .d (fr q)] = .ok (.d (.bool (decide (p < q))), none) := by
  rw [call_eq hf ⟨rfl, rfl⟩]
  show (runs P.C P.sub (callF P k) bLess [.d (fr p), .d (fr q)]).bind _ = _
  have m1 : mulD (.int p.num) (.int (q.den : Nat)) = _ := d_mul (mulOk_sz hp.1 (show ((q.den : Nat) : Int).natAbs < 2 ^ i by rw [Int.natAbs_natCast]; exact hq.2) (by omega))
  have m2 : mulD (.int q.num) (.int (p.den : Nat)) = _ := d_mul (mulOk_sz hq.1 (show ((p.den : Nat) : Int).natAbs < 2 ^ i by rw [Int.natAbs_natCast]; exact hp.2) (by omega))
  unfold bLess
  simp only [it_l, it_t, rs_cons, rs_nil, r_asg, r_asg2, r_par2, r_aug, r_own, r_ownC, r_app, r_setP, r_ifs, r_for, r_fgt, r_ret, r_retD, r_retO, r_mv, r_ex, r_brk, r_cont, r_pass, x_v, x_fz, x_int, x_str, x_bl, x_non, x_neg, x_bin, x_cmp, x_chain, x_bop, x_not, x_ite, x_ix, x_sl, xo_no, xo_so, x_tup, x_lst, x_call, x_blt, x_isi, x_mth, x_ixP, x_lenP, x_spc, x_srtK, x_inP, t_inP, r_ownE, r_rem, r_ext, r_augP, r_parL, xs_nil, xs_cons, t_cmp, t_v, t_not, t_bop, t_ite, t_chain, t_isi, t_call, t_gq, t_bl, t_ix, t_bin, t_blt, i_of, n_range1, n_range2, i_zip, i_enum, i_enumz, xc_no, xc_so, fl_nil, fl_cons, bt_n, bt_2, bt_3, wipeE, keepS, backE, ok_bind, ofO_some, datO, List.getElem?_cons_zero, List.getElem?_cons_succ, List.set_cons_zero, List.set_cons_succ, List.map_cons, List.map_nil, dv_add, dv_sub, dv_mul, dv_fdiv, dv_mod, dv_pow, a_int, s_int, d_int, c_le, c_lt, c_gt, c_ge, c_eq, c_ne, e_int, tr_bool, tr_int, tr_none, s_bool, b_bool, b_abs, ip_int, ip_sub, if_true, if_false, eq_self, Bool.not_true, Bool.not_false, Bool.false_eq_true, Bool.true_eq_false, le_0, le_1, le_2, le_3, le_4, ic_lst, endE, Option.map_some, Option.bind_some, ix_fr0, ix_fr1, m1, m2, ← Rat.lt_iff]
end
end N
/-! N25: sums, products, quotients of fractions. -/
namespace N
open PySem
/-! ### sizes -/
theorem mul_lt {a b : Int} {i j : Nat} (ha : a.natAbs < 2 ^ i) (hb : b.natAbs < 2 ^ j) : (a * b).natAbs < 2 ^ (i + j) := by
  rw [Int.natAbs_mul, Nat.pow_add]
  exact Nat.mul_lt_mul'' ha hb
theorem add_lt {a b : Int} {i : Nat} (ha : a.natAbs < 2 ^ i) (hb : b.natAbs < 2 ^ i) : (a + b).natAbs < 2 ^ (i + 1) := by
  have := Int.natAbs_add_le a b
  rw [Nat.pow_succ]
  omega
theorem sub_lt {a b : Int} {i : Nat} (ha : a.natAbs < 2 ^ i) (hb : b.natAbs < 2 ^ i) : (a - b).natAbs < 2 ^ (i + 1) := by
  rw [Int.sub_eq_add_neg]
  exact add_lt ha (by rw [Int.natAbs_neg]; exact hb)
theorem sz_den {i : Nat} {q : Rat} (h : sz i q) : ((q.den : Nat) : Int).natAbs < 2 ^ i := by rw [Int.natAbs_natCast]; exact h.2
theorem rat_nd (q : Rat) : q = Rat.divInt q.num (q.den : Nat) := (Rat.num_divInt_den q).symm
theorem den_ne (q : Rat) : ((q.den : Nat) : Int) ≠ 0 := by have := q.den_pos; omega
theorem add_di (p q : Rat) : Rat.divInt (p.num * (q.den : Nat) + q.num * (p.den : Nat)) ((p.den : Nat) * (q.den : Nat)) = p + q := by
  rw [← Rat.divInt_add_divInt _ _ (den_ne p) (den_ne q), ← rat_nd, ← rat_nd]
theorem neg_di (a b : Int) : Rat.divInt (-a) b = -Rat.divInt a b := by
  rw [Rat.divInt_eq_div, Rat.divInt_eq_div, Rat.intCast_neg]; grind
theorem sub_di (p q : Rat) : Rat.divInt (p.num * (q.den : Nat) - q.num * (p.den : Nat)) ((p.den : Nat) * (q.den : Nat)) = p - q := by
  have h := Rat.divInt_add_divInt p.num (-q.num) (den_ne p) (den_ne q)
  rw [Int.neg_mul, ← Int.sub_eq_add_neg, neg_di, ← rat_nd, ← rat_nd] at h
  rw [← h]; grind
theorem mul_di (p q : Rat) : Rat.divInt (p.num * q.num) ((p.den : Nat) * (q.den : Nat)) = p * q := by
  have h1 := rat_nd p
  have h2 := rat_nd q
  rw [Rat.divInt_eq_div] at h1 h2 ⊢
  rw [Rat.intCast_mul, Rat.intCast_mul]
  have n1 : ((p.den : Int) : Rat) ≠ 0 := fun e => den_ne p (Rat.intCast_inj.mp e)
  have n2 : ((q.den : Int) : Rat) ≠ 0 := fun e => den_ne q (Rat.intCast_inj.mp e)
  generalize ((p.num : Int) : Rat) = a at h1 ⊢
  generalize ((q.num : Int) : Rat) = b at h2 ⊢
  generalize ((p.den : Int) : Rat) = c at h1 n1 ⊢
  generalize ((q.den : Int) : Rat) = d at h2 n2 ⊢
  rw [h1, h2]
  grind
theorem num_ne {q : Rat} (h : q ≠ 0) : q.num ≠ 0 := fun e => h (by rw [rat_nd q, e, Rat.divInt_eq_div, Rat.intCast_zero]; grind)
theorem div_di (p q : Rat) (hq : q ≠ 0) : Rat.divInt (p.num * (q.den : Nat)) ((p.den : Nat) * q.num) = p / q := by
  have h1 := rat_nd p
  have h2 := rat_nd q
  rw [Rat.divInt_eq_div] at h1 h2 ⊢
  rw [Rat.intCast_mul, Rat.intCast_mul]
  have n1 : ((p.den : Int) : Rat) ≠ 0 := fun e => den_ne p (Rat.intCast_inj.mp e)
  have n2 : ((q.den : Int) : Rat) ≠ 0 := fun e => den_ne q (Rat.intCast_inj.mp e)
  have n3 : ((q.num : Int) : Rat) ≠ 0 := fun e => num_ne hq (Rat.intCast_inj.mp e)
  generalize ((p.num : Int) : Rat) = a at h1 ⊢
  generalize ((q.num : Int) : Rat) = b at h2 n3 ⊢
  generalize ((p.den : Int) : Rat) = c at h1 n1 ⊢
  generalize ((q.den : Int) : Rat) = d at h2 n2 ⊢
  rw [h1, h2]
  grind
theorem sz_add {i j : Nat} {p q : Rat} (hp : sz i p) (hq : sz j q) : sz (i + j + 1) (p + q) := by
  rw [← add_di]
  refine sz_divInt (by omega) (add_lt (mul_lt hp.1 (sz_den hq)) (by rw [Nat.add_comm]; exact mul_lt hq.1 (sz_den hp))) (Nat.lt_of_lt_of_le (mul_lt (sz_den hp) (sz_den hq)) (Nat.pow_le_pow_right (by decide) (by omega)))
theorem sz_sub {i j : Nat} {p q : Rat} (hp : sz i p) (hq : sz j q) : sz (i + j + 1) (p - q) := by
  rw [← sub_di]
  refine sz_divInt (by omega) (sub_lt (mul_lt hp.1 (sz_den hq)) (by rw [Nat.add_comm]; exact mul_lt hq.1 (sz_den hp))) (Nat.lt_of_lt_of_le (mul_lt (sz_den hp) (sz_den hq)) (Nat.pow_le_pow_right (by decide) (by omega)))
theorem sz_pos {i : Nat} {q : Rat} (h : sz i q) : 0 < i := by
  have := q.den_pos
  have h2 := h.2
  cases i with
  | zero => simp at h2; omega
  | succ i => omega
theorem sz_mul {i j : Nat} {p q : Rat} (hp : sz i p) (hq : sz j q) : sz (i + j) (p * q) := by
  rw [← mul_di]
  have := sz_pos hp
  exact sz_divInt (by omega) (mul_lt hp.1 hq.1) (mul_lt (sz_den hp) (sz_den hq))
theorem sz_div {i j : Nat} {p q : Rat} (hp : sz i p) (hq : sz j q) (h : q ≠ 0) : sz (i + j) (p / q) := by
  rw [← div_di p q h]
  have := sz_pos hp
  exact sz_divInt (by omega) (mul_lt hp.1 (sz_den hq)) (mul_lt (sz_den hp) hq.1)
theorem sz_neg {i : Nat} {p : Rat} (hp : sz i p) : sz i (-p) := by
  refine ⟨?_, ?_⟩
  · rw [Rat.neg_num, Int.natAbs_neg]; exact hp.1
  · rw [Rat.neg_den]; exact hp.2
theorem sz_int {i : Nat} {n : Int} (hi : 0 < i) (h : n.natAbs < 2 ^ i) : sz i (n : Rat) := ⟨by rw [Rat.num_intCast]; exact h, by rw [Rat.den_intCast]; exact Nat.one_lt_two_pow (by omega)⟩
theorem sz_inv {i : Nat} {p : Rat} (hp : sz i p) : sz i p⁻¹ := by
  have := sz_pos hp
  refine ⟨?_, ?_⟩
  · rw [Rat.num_inv, Int.natAbs_mul, Int.natAbs_sign]
    have := hp.2
    split
    · simp; exact Nat.two_pow_pos i
    · simpa using this
  · rw [Rat.den_inv]
    split
    · exact Nat.one_lt_two_pow (by omega)
    · exact hp.1
/-! ### written fractions -/
theorem fr_1 : (PyData.tuple [.int 1, .int 1] : D) = fr 1 := rfl
theorem fr_0 : (PyData.tuple [.int 0, .int 1] : D) = fr 0 := rfl
theorem fr_2 : (PyData.tuple [.int 2, .int 1] : D) = fr 2 := rfl
theorem fr_m1 : (PyData.tuple [.int (-1), .int 1] : D) = fr (-1) := rfl
theorem fr_int (n : Int) : (PyData.tuple [.int n, .int 1] : D) = fr (n : Rat) := by
  unfold fr; rw [Rat.num_intCast, Rat.den_intCast]; rfl
theorem num_pos' {q : Rat} (h : 0 < q) : 0 < q.num := by
  have := (Rat.lt_iff 0 q).mp h
  simpa using this
theorem fr_inv {q : Rat} (h : 0 < q) : (PyData.tuple [.int (q.den : Nat), .int q.num] : D) = fr q⁻¹ := by
  have hn : 0 < q.num := num_pos' h
  unfold fr
  rw [Rat.num_inv, Rat.den_inv, if_neg (by omega), Int.sign_eq_one_of_pos hn, Int.one_mul]
  have e : ((q.num.natAbs : Nat) : Int) = q.num := by omega
  rw [e]
theorem fr_neg (q : Rat) : (PyData.tuple [.int (-q.num), .int (q.den : Nat)] : D) = fr (-q) := by
  unfold fr; rw [Rat.neg_num, Rat.neg_den]
theorem fr_ninv {q : Rat} (h : 0 < q) : (PyData.tuple [.int (-((q.den : Nat) : Int)), .int q.num] : D) = fr (-q⁻¹) := by
  have e := fr_inv h
  rw [← fr_neg]
  unfold fr at e
  injection e with e
  injection e with e1 e2
  injection e2 with e2 _
  injection e1 with e1
  injection e2 with e2
  rw [e1, e2]
/-! ### the walks -/
def bPlus (e : Nat) : List Cm := [.ret (.call e [(.bin .add (.bin .mul (.ix (.v 0) (.int 0)) (.ix (.v 1) (.int 1))) (.bin .mul (.ix (.v 1) (.int 0)) (.ix (.v 0) (.int 1)))), (.bin .mul (.ix (.v 0) (.int 1)) (.ix (.v 1) (.int 1)))])]
def bMinus (e : Nat) : List Cm := [.ret (.call e [(.bin .sub (.bin .mul (.ix (.v 0) (.int 0)) (.ix (.v 1) (.int 1))) (.bin .mul (.ix (.v 1) (.int 0)) (.ix (.v 0) (.int 1)))), (.bin .mul (.ix (.v 0) (.int 1)) (.ix (.v 1) (.int 1)))])]
def bTimes (e : Nat) : List Cm := [.ret (.call e [(.bin .mul (.ix (.v 0) (.int 0)) (.ix (.v 1) (.int 0))), (.bin .mul (.ix (.v 0) (.int 1)) (.ix (.v 1) (.int 1)))])]
def bOver (e : Nat) : List Cm := [.ret (.call e [(.bin .mul (.ix (.v 0) (.int 0)) (.ix (.v 1) (.int 1))), (.bin .mul (.ix (.v 0) (.int 1)) (.ix (.v 1) (.int 0)))])]
def bSum (e : Nat) : List Cm := [.asg (.n 1) (.tup [(.int 0), (.int 1)]), .fgt [2], .for (.n 2) (.of (.v 0)) [.asg (.n 1) (.call e [(.v 1), (.v 2)]), .fgt [2]], .ret (.v 1)]
section
variable {P : Pg} {e f k : Nat} {nm : Str}
/-- the def at e gives the fraction of two ints -/
def isFr (P : Pg) (k e : Nat) : Prop := ∀ a b : Int, b ≠ 0 → b.natAbs < 2 ^ 200 → callF P k e [.d (.int a), .d (.int b)] = .ok (.d (fr (Rat.divInt a b)), none)
/-- the def at e gives the sum of two fractions -/
def isPlus (P : Pg) (k e : Nat) : Prop := ∀ {i j : Nat} {p q : Rat}, sz i p → sz j q → i + j < 199 → callF P k e [.d (fr p), .d (fr q)] = .ok (.d (fr (p + q)), none)
theorem ne_mul {a b : Int} (ha : a ≠ 0) (hb : b ≠ 0) : a * b ≠ 0 := Int.mul_ne_zero ha hb
theorem w_plus (hf : P.fns[f]? = some ⟨nm, 2, ["one", "two"], false, none, bPlus e⟩) (E : isFr P k e) : isPlus P (k + 1) f := fun {i j p q} hp hq hs => by
  rw [call_eq hf ⟨rfl, rfl⟩]
  show (runs P.C P.sub (callF P k) (bPlus e) [.d (fr p), .d (fr q)]).bind _ = _
  have m1 : mulD (.int p.num) (.int (q.den : Nat)) = _ := d_mul (mulOk_sz hp.1 (sz_den hq) (by omega))
  have m2 : mulD (.int q.num) (.int (p.den : Nat)) = _ := d_mul (mulOk_sz hq.1 (sz_den hp) (by omega))
  have m3 : mulD (.int (p.den : Nat)) (.int (q.den : Nat)) = _ := d_mul (mulOk_sz (sz_den hp) (sz_den hq) (by omega))
  have c := E (p.num * (q.den : Nat) + q.num * (p.den : Nat)) ((p.den : Nat) * (q.den : Nat)) (ne_mul (den_ne p) (den_ne q)) (Nat.lt_of_lt_of_le (mul_lt (sz_den hp) (sz_den hq)) (Nat.pow_le_pow_right (by decide) (by omega)))
  rw [add_di] at c
  unfold bPlus
  simp only [it_l, it_t, rs_cons, rs_nil, r_asg, r_asg2, r_par2, r_aug, r_own, r_ownC, r_app, r_setP, r_ifs, r_for, r_fgt, r_ret, r_retD, r_retO, r_mv, r_ex, r_brk, r_cont, r_pass, x_v, x_fz, x_int, x_str, x_bl, x_non, x_neg, x_bin, x_cmp, x_chain, x_bop, x_not, x_ite, x_ix, x_sl, xo_no, xo_so, x_tup, x_lst, x_call, x_blt, x_isi, x_mth, x_ixP, x_lenP, x_spc, x_srtK, x_inP, t_inP, r_ownE, r_rem, r_ext, r_augP, r_parL, xs_nil, xs_cons, t_cmp, t_v, t_not, t_bop, t_ite, t_chain, t_isi, t_call, t_gq, t_bl, t_ix, t_bin, t_blt, i_of, n_range1, n_range2, i_zip, i_enum, i_enumz, xc_no, xc_so, fl_nil, fl_cons, bt_n, bt_2, bt_3, wipeE, keepS, backE, ok_bind, ofO_some, datO, List.getElem?_cons_zero, List.getElem?_cons_succ, List.set_cons_zero, List.set_cons_succ, List.map_cons, List.map_nil, dv_add, dv_sub, dv_mul, dv_fdiv, dv_mod, dv_pow, a_int, s_int, d_int, c_le, c_lt, c_gt, c_ge, c_eq, c_ne, e_int, tr_bool, tr_int, tr_none, s_bool, b_bool, b_abs, ip_int, ip_sub, if_true, if_false, eq_self, Bool.not_true, Bool.not_false, Bool.false_eq_true, Bool.true_eq_false, le_0, le_1, le_2, le_3, le_4, ic_lst, endE, Option.map_some, Option.bind_some, ix_fr0, ix_fr1, m1, m2, m3, c]
theorem w_minus (hf : P.fns[f]? = some ⟨nm, 2, ["one", "two"], false, none, bMinus e⟩) (E : isFr P k e) {i j : Nat} {p q : Rat} (hp : sz i p) (hq : sz j q) (hs : i + j < 199) : callF P (k + 1) f [.d (fr p), .d (fr q)] = .ok (.d (fr (p - q)), none) := by
  rw [call_eq hf ⟨rfl, rfl⟩]
  show (runs P.C P.sub (callF P k) (bMinus e) [.d (fr p), .d (fr q)]).bind _ = _
  have m1 : mulD (.int p.num) (.int (q.den : Nat)) = _ := d_mul (mulOk_sz hp.1 (sz_den hq) (by omega))
  have m2 : mulD (.int q.num) (.int (p.den : Nat)) = _ := d_mul (mulOk_sz hq.1 (sz_den hp) (by omega))
  have m3 : mulD (.int (p.den : Nat)) (.int (q.den : Nat)) = _ := d_mul (mulOk_sz (sz_den hp) (sz_den hq) (by omega))
  have c := E (p.num * (q.den : Nat) - q.num * (p.den : Nat)) ((p.den : Nat) * (q.den : Nat)) (ne_mul (den_ne p) (den_ne q)) (Nat.lt_of_lt_of_le (mul_lt (sz_den hp) (sz_den hq)) (Nat.pow_le_pow_right (by decide) (by omega)))
  rw [sub_di] at c
  unfold bMinus
  simp only [it_l, it_t, rs_cons, rs_nil, r_asg, r_asg2, r_par2, r_aug, r_own, r_ownC, r_app, r_setP, r_ifs, r_for, r_fgt, r_ret, r_retD, r_retO, r_mv, r_ex, r_brk, r_cont, r_pass, x_v, x_fz, x_int, x_str, x_bl, x_non, x_neg, x_bin, x_cmp, x_chain, x_bop, x_not, x_ite, x_ix, x_sl, xo_no, xo_so, x_tup, x_lst, x_call, x_blt, x_isi, x_mth, x_ixP, x_lenP, x_spc, x_srtK, x_inP, t_inP, r_ownE, r_rem, r_ext, r_augP, r_parL, xs_nil, xs_cons, t_cmp, t_v, t_not, t_bop, t_ite, t_chain, t_isi, t_call, t_gq, t_bl, t_ix, t_bin, t_blt, i_of, n_range1, n_range2, i_zip, i_enum, i_enumz, xc_no, xc_so, fl_nil, fl_cons, bt_n, bt_2, bt_3, wipeE, keepS, backE, ok_bind, ofO_some, datO, List.getElem?_cons_zero, List.getElem?_cons_succ, List.set_cons_zero, List.set_cons_succ, List.map_cons, List.map_nil, dv_add, dv_sub, dv_mul, dv_fdiv, dv_mod, dv_pow, a_int, s_int, d_int, c_le, c_lt, c_gt, c_ge, c_eq, c_ne, e_int, tr_bool, tr_int, tr_none, s_bool, b_bool, b_abs, ip_int, ip_sub, if_true, if_false, eq_self, Bool.not_true, Bool.not_false, Bool.false_eq_true, Bool.true_eq_false, le_0, le_1, le_2, le_3, le_4, ic_lst, endE, Option.map_some, Option.bind_some, ix_fr0, ix_fr1, m1, m2, m3, c]
theorem w_times (hf : P.fns[f]? = some ⟨nm, 2, ["one", "two"], false, none, bTimes e⟩) (E : isFr P k e) {i j : Nat} {p q : Rat} (hp : sz i p) (hq : sz j q) (hs : i + j < 199) : callF P (k + 1) f [.d (fr p), .d (fr q)] = .ok (.d (fr (p * q)), none) := by
  rw [call_eq hf ⟨rfl, rfl⟩]
  show (runs P.C P.sub (callF P k) (bTimes e) [.d (fr p), .d (fr q)]).bind _ = _
  have m1 : mulD (.int p.num) (.int q.num) = _ := d_mul (mulOk_sz hp.1 hq.1 (by omega))
  have m3 : mulD (.int (p.den : Nat)) (.int (q.den : Nat)) = _ := d_mul (mulOk_sz (sz_den hp) (sz_den hq) (by omega))
  have c := E (p.num * q.num) ((p.den : Nat) * (q.den : Nat)) (ne_mul (den_ne p) (den_ne q)) (Nat.lt_of_lt_of_le (mul_lt (sz_den hp) (sz_den hq)) (Nat.pow_le_pow_right (by decide) (by omega)))
  rw [mul_di] at c
  unfold bTimes
  simp only [it_l, it_t, rs_cons, rs_nil, r_asg, r_asg2, r_par2, r_aug, r_own, r_ownC, r_app, r_setP, r_ifs, r_for, r_fgt, r_ret, r_retD, r_retO, r_mv, r_ex, r_brk, r_cont, r_pass, x_v, x_fz, x_int, x_str, x_bl, x_non, x_neg, x_bin, x_cmp, x_chain, x_bop, x_not, x_ite, x_ix, x_sl, xo_no, xo_so, x_tup, x_lst, x_call, x_blt, x_isi, x_mth, x_ixP, x_lenP, x_spc, x_srtK, x_inP, t_inP, r_ownE, r_rem, r_ext, r_augP, r_parL, xs_nil, xs_cons, t_cmp, t_v, t_not, t_bop, t_ite, t_chain, t_isi, t_call, t_gq, t_bl, t_ix, t_bin, t_blt, i_of, n_range1, n_range2, i_zip, i_enum, i_enumz, xc_no, xc_so, fl_nil, fl_cons, bt_n, bt_2, bt_3, wipeE, keepS, backE, ok_bind, ofO_some, datO, List.getElem?_cons_zero, List.getElem?_cons_succ, List.set_cons_zero, List.set_cons_succ, List.map_cons, List.map_nil, dv_add, dv_sub, dv_mul, dv_fdiv, dv_mod, dv_pow, a_int, s_int, d_int, c_le, c_lt, c_gt, c_ge, c_eq, c_ne, e_int, tr_bool, tr_int, tr_none, s_bool, b_bool, b_abs, ip_int, ip_sub, if_true, if_false, eq_self, Bool.not_true, Bool.not_false, Bool.false_eq_true, Bool.true_eq_false, le_0, le_1, le_2, le_3, le_4, ic_lst, endE, Option.map_some, Option.bind_some, ix_fr0, ix_fr1, m1, m3, c]
theorem w_over (hf : P.fns[f]? = some ⟨nm, 2, ["one", "two"], false, none, bOver e⟩) (E : isFr P k e) {i j : Nat} {p q : Rat} (hp : sz i p) (hq : sz j q) (hs : i + j < 199) (h0 : q ≠ 0) : callF P (k + 1) f [.d (fr p), .d (fr q)] = .ok (.d (fr (p / q)), none) := by
  rw [call_eq hf ⟨rfl, rfl⟩]
  show (runs P.C P.sub (callF P k) (bOver e) [.d (fr p), .d (fr q)]).bind _ = _
  have m1 : mulD (.int p.num) (.int (q.den : Nat)) = _ := d_mul (mulOk_sz hp.1 (sz_den hq) (by omega))
  have m3 : mulD (.int (p.den : Nat)) (.int q.num) = _ := d_mul (mulOk_sz (sz_den hp) hq.1 (by omega))
  have c := E (p.num * (q.den : Nat)) ((p.den : Nat) * q.num) (ne_mul (den_ne p) (num_ne h0)) (Nat.lt_of_lt_of_le (mul_lt (sz_den hp) hq.1) (Nat.pow_le_pow_right (by decide) (by omega)))
  rw [div_di p q h0] at c
  unfold bOver
  simp only [it_l, it_t, rs_cons, rs_nil, r_asg, r_asg2, r_par2, r_aug, r_own, r_ownC, r_app, r_setP, r_ifs, r_for, r_fgt, r_ret, r_retD, r_retO, r_mv, r_ex, r_brk, r_cont, r_pass, x_v, x_fz, x_int, x_str, x_bl, x_non, x_neg, x_bin, x_cmp, x_chain, x_bop, x_not, x_ite, x_ix, x_sl, xo_no, xo_so, x_tup, x_lst, x_call, x_blt, x_isi, x_mth, x_ixP, x_lenP, x_spc, x_srtK, x_inP, t_inP, r_ownE, r_rem, r_ext, r_augP, r_parL, xs_nil, xs_cons, t_cmp, t_v, t_not, t_bop, t_ite, t_chain, t_isi, t_call, t_gq, t_bl, t_ix, t_bin, t_blt, i_of, n_range1, n_range2, i_zip, i_enum, i_enumz, xc_no, xc_so, fl_nil, fl_cons, bt_n, bt_2, bt_3, wipeE, keepS, backE, ok_bind, ofO_some, datO, List.getElem?_cons_zero, List.getElem?_cons_succ, List.set_cons_zero, List.set_cons_succ, List.map_cons, List.map_nil, dv_add, dv_sub, dv_mul, dv_fdiv, dv_mod, dv_pow, a_int, s_int, d_int, c_le, c_lt, c_gt, c_ge, c_eq, c_ne, e_int, tr_bool, tr_int, tr_none, s_bool, b_bool, b_abs, ip_int, ip_sub, if_true, if_false, eq_self, Bool.not_true, Bool.not_false, Bool.false_eq_true, Bool.true_eq_false, le_0, le_1, le_2, le_3, le_4, ic_lst, endE, Option.map_some, Option.bind_some, ix_fr0, ix_fr1, m1, m3, c]
/-- a sum from the left -/
def rsum (l : List Rat) : Rat := l.foldl (· + ·) 0
theorem sz_fold {i : Nat} : ∀ (l : List Rat) {j : Nat} {z : Rat}, sz j z → (∀ p ∈ l, sz i p) → sz (j + l.length * (i + 1)) (l.foldl (· + ·) z)
  | [], j, z, hz, _ => by simpa using hz
  | p :: l, j, z, hz, h => by
    have := sz_fold l (sz_add hz (h p (List.mem_cons_self ..))) fun q hq => h q (List.mem_cons_of_mem _ hq)
    rw [List.foldl_cons, List.length_cons]
    refine sz_mono this ?_
    rw [Nat.add_mul]
    omega
theorem sz_rsum {i : Nat} {l : List Rat} (h : ∀ p ∈ l, sz i p) : sz (1 + l.length * (i + 1)) (rsum l) := sz_fold l ⟨by decide, by decide⟩ h
theorem w_sum {x : Str} (hf : P.fns[f]? = some ⟨nm, 1, [x, "found", "one"], false, none, bSum e⟩) (E : isPlus P k e) {i : Nat} (l : List Rat) (h : ∀ p ∈ l, sz i p) (hs : 1 + l.length * (i + 1) < 198) {z : D} (hz : itemsD z = some (l.map fr)) :
    callF P (k + 1) f [.d z] = .ok (.d (fr (rsum l)), none) := by
  rw [call_eq hf ⟨rfl, rfl⟩]
  show (runs P.C P.sub (callF P k) (bSum e) [.d z, .u, .u]).bind _ = _
  have lp := forL_fold (b := fun x σ => (ofO (bindT (.n 2) x σ)).bind fun σ1 => runs P.C P.sub (callF P k) [.asg (.n 1) (.call e [(.v 1), (.v 2)]), .fgt [2]] σ1) (em := fr) (st := fun w : Rat => [.d z, .d (fr w), .u]) (g := (· + ·))
    (fun r w => (∀ p ∈ r, sz i p) ∧ ∃ j, sz j w ∧ j + r.length * (i + 1) < 198) l 0 ⟨h, 1, ⟨by decide, by decide⟩, hs⟩ (fun p r w ⟨h1, j, h2, h3⟩ => by
      rw [List.length_cons, Nat.add_mul] at h3
      have c := E h2 (h1 p (List.mem_cons_self ..)) (by omega)
      refine ⟨by simp only [it_l, it_t, rs_cons, rs_nil, r_asg, r_asg2, r_par2, r_aug, r_own, r_ownC, r_app, r_setP, r_ifs, r_for, r_fgt, r_ret, r_retD, r_retO, r_mv, r_ex, r_brk, r_cont, r_pass, x_v, x_fz, x_int, x_str, x_bl, x_non, x_neg, x_bin, x_cmp, x_chain, x_bop, x_not, x_ite, x_ix, x_sl, xo_no, xo_so, x_tup, x_lst, x_call, x_blt, x_isi, x_mth, x_ixP, x_lenP, x_spc, x_srtK, x_inP, t_inP, r_ownE, r_rem, r_ext, r_augP, r_parL, xs_nil, xs_cons, t_cmp, t_v, t_not, t_bop, t_ite, t_chain, t_isi, t_call, t_gq, t_bl, t_ix, t_bin, t_blt, i_of, n_range1, n_range2, i_zip, i_enum, i_enumz, xc_no, xc_so, fl_nil, fl_cons, bt_n, bt_2, bt_3, wipeE, keepS, backE, ok_bind, ofO_some, datO, List.getElem?_cons_zero, List.getElem?_cons_succ, List.set_cons_zero, List.set_cons_succ, List.map_cons, List.map_nil, dv_add, dv_sub, dv_mul, dv_fdiv, dv_mod, dv_pow, a_int, s_int, d_int, c_le, c_lt, c_gt, c_ge, c_eq, c_ne, e_int, tr_bool, tr_int, tr_none, s_bool, b_bool, b_abs, ip_int, ip_sub, if_true, if_false, eq_self, Bool.not_true, Bool.not_false, Bool.false_eq_true, Bool.true_eq_false, le_0, le_1, le_2, le_3, le_4, ic_lst, endE, Option.map_some, Option.bind_some, c], fun q hq => h1 q (List.mem_cons_of_mem _ hq), _, sz_add h2 (h1 p (List.mem_cons_self ..)), by omega⟩)
  have lp1 := lp.1
  simp only [it_l, it_t, rs_cons, rs_nil, r_asg, r_asg2, r_par2, r_aug, r_own, r_ownC, r_app, r_setP, r_ifs, r_for, r_fgt, r_ret, r_retD, r_retO, r_mv, r_ex, r_brk, r_cont, r_pass, x_v, x_fz, x_int, x_str, x_bl, x_non, x_neg, x_bin, x_cmp, x_chain, x_bop, x_not, x_ite, x_ix, x_sl, xo_no, xo_so, x_tup, x_lst, x_call, x_blt, x_isi, x_mth, x_ixP, x_lenP, x_spc, x_srtK, x_inP, t_inP, r_ownE, r_rem, r_ext, r_augP, r_parL, xs_nil, xs_cons, t_cmp, t_v, t_not, t_bop, t_ite, t_chain, t_isi, t_call, t_gq, t_bl, t_ix, t_bin, t_blt, i_of, n_range1, n_range2, i_zip, i_enum, i_enumz, xc_no, xc_so, fl_nil, fl_cons, bt_n, bt_2, bt_3, wipeE, keepS, backE, ok_bind, ofO_some, datO, List.getElem?_cons_zero, List.getElem?_cons_succ, List.set_cons_zero, List.set_cons_succ, List.map_cons, List.map_nil, dv_add, dv_sub, dv_mul, dv_fdiv, dv_mod, dv_pow, a_int, s_int, d_int, c_le, c_lt, c_gt, c_ge, c_eq, c_ne, e_int, tr_bool, tr_int, tr_none, s_bool, b_bool, b_abs, ip_int, ip_sub, if_true, if_false, eq_self, Bool.not_true, Bool.not_false, Bool.false_eq_true, Bool.true_eq_false, le_0, le_1, le_2, le_3, le_4, ic_lst, endE, Option.map_some, Option.bind_some] at lp1
  unfold bSum
  simp only [it_l, it_t, rs_cons, rs_nil, r_asg, r_asg2, r_par2, r_aug, r_own, r_ownC, r_app, r_setP, r_ifs, r_for, r_fgt, r_ret, r_retD, r_retO, r_mv, r_ex, r_brk, r_cont, r_pass, x_v, x_fz, x_int, x_str, x_bl, x_non, x_neg, x_bin, x_cmp, x_chain, x_bop, x_not, x_ite, x_ix, x_sl, xo_no, xo_so, x_tup, x_lst, x_call, x_blt, x_isi, x_mth, x_ixP, x_lenP, x_spc, x_srtK, x_inP, t_inP, r_ownE, r_rem, r_ext, r_augP, r_parL, xs_nil, xs_cons, t_cmp, t_v, t_not, t_bop, t_ite, t_chain, t_isi, t_call, t_gq, t_bl, t_ix, t_bin, t_blt, i_of, n_range1, n_range2, i_zip, i_enum, i_enumz, xc_no, xc_so, fl_nil, fl_cons, bt_n, bt_2, bt_3, wipeE, keepS, backE, ok_bind, ofO_some, datO, List.getElem?_cons_zero, List.getElem?_cons_succ, List.set_cons_zero, List.set_cons_succ, List.map_cons, List.map_nil, dv_add, dv_sub, dv_mul, dv_fdiv, dv_mod, dv_pow, a_int, s_int, d_int, c_le, c_lt, c_gt, c_ge, c_eq, c_ne, e_int, tr_bool, tr_int, tr_none, s_bool, b_bool, b_abs, ip_int, ip_sub, if_true, if_false, eq_self, Bool.not_true, Bool.not_false, Bool.false_eq_true, Bool.true_eq_false, le_0, le_1, le_2, le_3, le_4, ic_lst, endE, Option.map_some, Option.bind_some, fr_0, hz, lp1]
  rfl
end
end N
/-! N26: steps, lists of values, loops that draw. -/
namespace N
open PySem
theorem line_v : LINE = 16777216 := rfl
theorem l_tuple {xs : List D} : bltD .len [.tuple xs] = some (.int xs.length) := rfl
theorem t_list {xs : List D} : bltD .tuple [.list xs] = some (.tuple xs) := rfl
theorem ix_map {α : Type} (em : α → D) (d : α) (l : List α) (j : Nat) (h : j < l.length) : idxD (.list (l.map em)) (.int (j : Int)) = some (em (l.getD j d)) := by
  show L2.atI (l.map em) (j : Int) = _
  rw [atI_nat (by rw [List.length_map]; exact h), List.getElem?_map, List.getD_eq_getElem?_getD, List.getElem?_eq_getElem h]
  rfl
theorem ixt_map {α : Type} (em : α → D) (d : α) (l : List α) (j : Nat) (h : j < l.length) : idxD (.tuple (l.map em)) (.int (j : Int)) = some (em (l.getD j d)) := ix_map em d l j h
theorem ix_map0 {α : Type} (em : α → D) (d : α) (l : List α) (h : 0 < l.length) : idxD (.list (l.map em)) (.int 0) = some (em (l.getD 0 d)) := ix_map em d l 0 h
theorem ixt_map0 {α : Type} (em : α → D) (d : α) (l : List α) (h : 0 < l.length) : idxD (.tuple (l.map em)) (.int 0) = some (em (l.getD 0 d)) := ix_map em d l 0 h
theorem rs_step {C : List (Str × D)} {sub : List (Str × Str)} {fn : Fns} {s : Cm} {ss : List Cm} {σ σ1 : En} (h : run C sub fn s σ = .ok (.nx, σ1)) : runs C sub fn (s :: ss) σ = runs C sub fn ss σ1 := by
  rw [rs_cons, h, ok_bind]
theorem rs_end {C : List (Str × D)} {sub : List (Str × Str)} {fn : Fns} {s : Cm} {ss : List Cm} {σ σ1 : En} {r : AV} (h : run C sub fn s σ = .ok (.rt r, σ1)) : runs C sub fn (s :: ss) σ = .ok (.rt r, σ1) := by
  rw [rs_cons, h, ok_bind]
theorem still_eq {α : Type} {a : α} : (Res.ok a).still = .ok a := rfl
theorem listL_nil {f : D → En → Res (Option D × En)} {σ : En} {acc : List D} : listL f [] σ acc = .ok (acc, σ) := rfl
theorem listL_cons {f : D → En → Res (Option D × En)} {x : D} {xs : List D} {σ : En} {acc : List D} : listL f (x :: xs) σ acc = (f x σ).bind fun p => match p.1 with
    | some y => if acc.length < LINE then listL f xs p.2 (acc ++ [y]) else .bad
    | none => listL f xs p.2 acc := rfl
/-- a comprehension whose elements are drawn -/
theorem listL_ex {α : Type} {f : D → En → Res (Option D × En)} {S : Nat → En} {em : α → D} {Q : α → Prop} {w : Nat} : ∀ (xs : List D) (n : Nat) (acc : List D), (∀ x ∈ xs, ∀ n, ∃ a, Q a ∧ f x (S n) = .ok (some (em a), S (n + w))) → acc.length + xs.length ≤ LINE →
    ∃ ys : List α, ys.length = xs.length ∧ (∀ y ∈ ys, Q y) ∧ listL f xs (S n) acc = .ok (acc ++ ys.map em, S (n + w * xs.length))
  | [], n, acc, _, _ => ⟨[], rfl, by simp, by rw [listL_nil]; simp⟩
  | x :: xs, n, acc, h, hl => by
    have hL := line_v
    rw [List.length_cons] at hl
    obtain ⟨a, qa, e⟩ := h x (List.mem_cons_self ..) n
    obtain ⟨ys, l1, q1, e1⟩ := listL_ex xs (n + w) (acc ++ [em a]) (fun x hx => h x (List.mem_cons_of_mem _ hx)) (by rw [List.length_append, List.length_singleton]; omega)
    refine ⟨a :: ys, by rw [List.length_cons, List.length_cons, l1], fun y hy => ?_, ?_⟩
    · rcases List.mem_cons.mp hy with rfl | hy
      · exact qa
      · exact q1 y hy
    · rw [listL_cons, e, ok_bind]
      show (if acc.length < LINE then listL f xs (S (n + w)) (acc ++ [em a]) else .bad) = _
      rw [if_pos (by omega), e1, List.append_assoc, List.length_cons, Nat.mul_add, Nat.mul_one, Nat.add_assoc, Nat.add_comm w]
      rfl
/-- a loop that goes through, to some state -/
theorem forL_ex {α β : Type} {b : D → Rn} {em : α → D} {st : β → En} (I : List α → β → Prop) : ∀ (l : List α) (z : β), I l z → (∀ a r z, I (a :: r) z → ∃ z', b (em a) (st z) = .ok (.nx, st z') ∧ I r z') → ∃ z', forL b (l.map em) (st z) = .ok (.nx, st z') ∧ I [] z'
  | [], z, h, _ => ⟨z, rfl, h⟩
  | a :: l, z, h, hb => by
    obtain ⟨z1, e1, h1⟩ := hb a l z h
    obtain ⟨z2, e2, h2⟩ := forL_ex I l z1 h1 hb
    exact ⟨z2, by rw [List.map_cons, fl_cons, e1, ok_bind]; exact e2, h2⟩
theorem forL_const {α : Type} {b : D → Rn} {em : α → D} {σ : En} : ∀ l : List α, (∀ a ∈ l, b (em a) σ = .ok (.nx, σ)) → forL b (l.map em) σ = .ok (.nx, σ)
  | [], _ => rfl
  | a :: l, h => by
    rw [List.map_cons, fl_cons, h a (List.mem_cons_self ..), ok_bind]
    exact forL_const l fun x hx => h x (List.mem_cons_of_mem _ hx)
/-! ### a list of one's own, of values -/
def mL {α : Type} (em : α → D) (l : List α) : Mu := .l (l.map fun x => .d (em x))
theorem mL_toD {α : Type} (em : α → D) (l : List α) : (mL em l).toD = .list (l.map em) := by
  unfold mL
  rw [Mu.toD, show (l.map fun x => Mu.d (em x)) = (l.map em).map Mu.d by rw [List.map_map]; rfl, Mu.toDs_map]
theorem mL_nil {α : Type} (em : α → D) : ownOf (.list []) = some (mL em []) := rfl
theorem app_m {α : Type} {em : α → D} {C : List (Str × D)} {sub : List (Str × Str)} {fn : Fns} {σ σ' : En} {j : Nat} {e : Ex} {l : List α} {x : α} {q q' : Bool} (h : σ[j]? = some (.m q (mL em l))) (he : (sm C fn e).v σ = .ok (em x, σ')) (h' : σ'[j]? = some (.m q' (mL em l))) (hl : l.length < 100000) :
    run C sub fn (.app j e) σ = .ok (.nx, σ'.set j (.m q' (mL em (l ++ [x])))) := by
  have hL := line_v
  have e2 : ownL (some (.m q (mL em l))) = true := rfl
  rw [r_app, h, e2, if_pos rfl, he, ok_bind, h']
  unfold mL
  show (if (l.map fun x => Mu.d (em x)).length < LINE then _ else _) = _
  rw [if_pos (by rw [List.length_map]; omega), List.map_append]
  rfl
end N
namespace K28
open PySem N
theorem fracP (k : Nat) : isFr P (k + 2) 1 := fun a b h0 hb => w_frac (g := 0) rfl rfl a b h0 hb
theorem fracL (k : Nat) : isFr P (k + 2) 26 := fun a b h0 hb => w_fracL (g := 25) rfl rfl a b h0 hb
theorem plusP (k : Nat) : isPlus P (k + 3) 2 := w_plus rfl (fracP k)
theorem plusL (k : Nat) : isPlus P (k + 3) 27 := w_plus rfl (fracL k)
theorem minusP (k : Nat) {i j : Nat} {p q : Rat} (hp : sz i p) (hq : sz j q) (hs : i + j < 199) : callF P (k + 3) 3 [.d (fr p), .d (fr q)] = .ok (.d (fr (p - q)), none) := w_minus rfl (fracP k) hp hq hs
theorem timesP (k : Nat) {i j : Nat} {p q : Rat} (hp : sz i p) (hq : sz j q) (hs : i + j < 199) : callF P (k + 3) 4 [.d (fr p), .d (fr q)] = .ok (.d (fr (p * q)), none) := w_times rfl (fracP k) hp hq hs
theorem timesL (k : Nat) {i j : Nat} {p q : Rat} (hp : sz i p) (hq : sz j q) (hs : i + j < 199) : callF P (k + 3) 28 [.d (fr p), .d (fr q)] = .ok (.d (fr (p * q)), none) := w_times rfl (fracL k) hp hq hs
theorem overP (k : Nat) {i j : Nat} {p q : Rat} (hp : sz i p) (hq : sz j q) (hs : i + j < 199) (h0 : q ≠ 0) : callF P (k + 3) 5 [.d (fr p), .d (fr q)] = .ok (.d (fr (p / q)), none) := w_over rfl (fracP k) hp hq hs h0
theorem lessP (k : Nat) {i : Nat} (hi : i < 400000) {p q : Rat} (hp : sz i p) (hq : sz i q) : callF P (k + 1) 6 [.d (fr p), .d (fr q)] = .ok (.d (.bool (decide (p < q))), none) := w_less (nm := "is_less") rfl hi p q hp hq
theorem lessL (k : Nat) {i : Nat} (hi : i < 400000) {p q : Rat} (hp : sz i p) (hq : sz i q) : callF P (k + 1) 31 [.d (fr p), .d (fr q)] = .ok (.d (.bool (decide (p < q))), none) := w_less (nm := "_law_less") rfl hi p q hp hq
theorem sumP (k : Nat) {i : Nat} (l : List Rat) (h : ∀ p ∈ l, sz i p) (hs : 1 + l.length * (i + 1) < 198) {z : D} (hz : itemsD z = some (l.map fr)) : callF P (k + 4) 7 [.d z] = .ok (.d (fr (rsum l)), none) := w_sum rfl (plusP k) l h hs hz
theorem sumL (k : Nat) {i : Nat} (l : List Rat) (h : ∀ p ∈ l, sz i p) (hs : 1 + l.length * (i + 1) < 198) {z : D} (hz : itemsD z = some (l.map fr)) : callF P (k + 4) 29 [.d z] = .ok (.d (fr (rsum l)), none) := w_sum rfl (plusL k) l h hs hz
theorem turned (k : Nat) {q : Rat} (h : 0 < q) : callF P (k + 1) 30 [.d (fr q)] = .ok (.d (fr q⁻¹), none) := by
  rw [call_eq (F := ⟨"_law_turned", 1, ["one"], false, none, b__law_turned⟩) rfl ⟨rfl, rfl⟩]
  show (runs P.C P.sub (callF P k) b__law_turned [.d (fr q)]).bind _ = _
  unfold b__law_turned
  simp only [it_l, it_t, rs_cons, rs_nil, r_asg, r_asg2, r_par2, r_aug, r_own, r_ownC, r_app, r_setP, r_ifs, r_for, r_fgt, r_ret, r_retD, r_retO, r_mv, r_ex, r_brk, r_cont, r_pass, x_v, x_fz, x_int, x_str, x_bl, x_non, x_neg, x_bin, x_cmp, x_chain, x_bop, x_not, x_ite, x_ix, x_sl, xo_no, xo_so, x_tup, x_lst, x_call, x_blt, x_isi, x_mth, x_ixP, x_lenP, x_spc, x_srtK, x_inP, t_inP, r_ownE, r_rem, r_ext, r_augP, r_parL, xs_nil, xs_cons, t_cmp, t_v, t_not, t_bop, t_ite, t_chain, t_isi, t_call, t_gq, t_bl, t_ix, t_bin, t_blt, i_of, n_range1, n_range2, i_zip, i_enum, i_enumz, xc_no, xc_so, fl_nil, fl_cons, bt_n, bt_2, bt_3, wipeE, keepS, backE, ok_bind, ofO_some, datO, List.getElem?_cons_zero, List.getElem?_cons_succ, List.set_cons_zero, List.set_cons_succ, List.map_cons, List.map_nil, dv_add, dv_sub, dv_mul, dv_fdiv, dv_mod, dv_pow, a_int, s_int, d_int, c_le, c_lt, c_gt, c_ge, c_eq, c_ne, e_int, tr_bool, tr_int, tr_none, s_bool, b_bool, b_abs, ip_int, ip_sub, if_true, if_false, eq_self, Bool.not_true, Bool.not_false, Bool.false_eq_true, Bool.true_eq_false, le_0, le_1, le_2, le_3, le_4, ic_lst, endE, Option.map_some, Option.bind_some, ix_fr0, ix_fr1, fr_inv h]
/-! ### lists -/
def frs (l : List Rat) : D := .list (l.map fr)
def frt (l : List Rat) : D := .tuple (l.map fr)
theorem it_frs (l : List Rat) : itemsD (frs l) = some (l.map fr) := rfl
theorem it_frt (l : List Rat) : itemsD (frt l) = some (l.map fr) := rfl
theorem frt_of (l : List Rat) : (PyData.tuple (l.map fr) : D) = frt l := rfl
theorem frs_of (l : List Rat) : (PyData.list (l.map fr) : D) = frs l := rfl
theorem eq_frs' (p q : List Rat) : eqD (frs p) (frs q) = some (decide (p = q)) := eq_frs p q
structure Rt where
  l : List Rat
  deriving DecidableEq
instance : Em Rt := ⟨fun t => frt t.l, 2, fun t => layAll t.l, fun t => Nat.succ_le_succ (depAll t.l), fun a b => by
  show PyData.eqvAll (a.l.map Em.e) (b.l.map Em.e) = _
  rw [eqvAll_e]
  cases a; cases b
  simp⟩
theorem eq_frt (p q : List Rat) : eqD (frt p) (frt q) = some (decide (p = q)) := by
  have h := eqD_e (α := Rt) (by decide) ⟨p⟩ ⟨q⟩
  rw [show (Em.e (Rt.mk p) : D) = frt p from rfl, show (Em.e (Rt.mk q) : D) = frt q from rfl] at h
  rw [h]; simp
theorem len_frs (l : List Rat) : bltD .len [frs l] = some (.int (l.length : Nat)) := by unfold frs; rw [l_list, List.length_map]
theorem len_frt (l : List Rat) : bltD .len [frt l] = some (.int (l.length : Nat)) := by unfold frt; rw [l_tuple, List.length_map]
theorem tup_frs (l : List Rat) : bltD .tuple [frs l] = some (frt l) := rfl
/-- odds -/
def od (q : Rat) : Prop := sz 6 q ∧ 1 < q
theorem od_pos {q : Rat} (h : od q) : 0 < q := by have := h.2; grind
theorem od_ne {q : Rat} (h : od q) : q ≠ 0 := by have := h.2; grind
theorem one_div (q : Rat) : 1 / q = q⁻¹ := by rw [Rat.div_def, Rat.one_mul]
theorem sz1 : sz 1 1 := ⟨by decide, by decide⟩
theorem sz_one {i : Nat} (h : 0 < i) : sz i 1 := sz_mono sz1 h
def inv (q : Rat) : Rat := q⁻¹
def Wh (l : List Rat) : Rat := rsum (l.map inv)
theorem inv_pos {q : Rat} (h : 0 < q) : 0 < q⁻¹ := Rat.inv_pos.mpr h
theorem fold_pos : ∀ (l : List Rat) (z : Rat), (∀ q ∈ l, 0 < q) → 0 ≤ z → (0 < z ∨ l ≠ []) → 0 < l.foldl (· + ·) z
  | [], z, _, hz, h => by rcases h with h | h; exact h; exact absurd rfl h
  | q :: l, z, hq, hz, _ => by
    have := hq q (List.mem_cons_self ..)
    exact fold_pos l _ (fun p hp => hq p (List.mem_cons_of_mem _ hp)) (by grind) (.inl (by grind))
theorem Wh_pos {l : List Rat} (h : ∀ q ∈ l, 0 < q) (ne : l ≠ []) : 0 < Wh l := fold_pos _ _ (fun q hq => by
  obtain ⟨p, hp, rfl⟩ := List.mem_map.mp hq
  exact inv_pos (h p hp)) (by decide) (.inr (by simpa using ne))
theorem Wh_sz {l : List Rat} (h : ∀ q ∈ l, sz 6 q) (hl : l.length ≤ 4) : sz 29 (Wh l) := by
  refine sz_mono (sz_rsum (i := 6) fun q hq => ?_) ?_
  · obtain ⟨p, hp, rfl⟩ := List.mem_map.mp hq
    exact sz_inv (h p hp)
  · rw [List.length_map]; omega
/-! ### the walks -/
theorem w_round (k : Nat) {z : D} (l : List Rat) (h : ∀ q ∈ l, od q) (hl : l.length ≤ 4) (hz : itemsD z = some (l.map fr)) : callF P (k + 5) 9 [.d z] = .ok (.d (fr (Wh l)), none) := by
  have hL := line_v
  rw [call_eq (F := ⟨"round_sum", 1, ["odds", "one"], false, none, b_round_sum⟩) rfl ⟨rfl, rfl⟩]
  show (runs P.C P.sub (callF P (k + 4)) b_round_sum [.d z, .u]).bind _ = _
  have lc := lc_map (C := P.C) (fn := callF P (k + 4)) (σ := [.d z, .u]) (σ1 := [.d z, .u]) (elt := .call 5 [(.tup [(.int 1), (.int 1)]), (.v 1)]) (tg := .n 1) (it := .of (.v 0)) (own := [1]) (l := l) (em := fr) (g := fun q => fr (inv q)) (by simp only [it_l, it_t, rs_cons, rs_nil, r_asg, r_asg2, r_par2, r_aug, r_own, r_ownC, r_app, r_setP, r_ifs, r_for, r_fgt, r_ret, r_retD, r_retO, r_mv, r_ex, r_brk, r_cont, r_pass, x_v, x_fz, x_int, x_str, x_bl, x_non, x_neg, x_bin, x_cmp, x_chain, x_bop, x_not, x_ite, x_ix, x_sl, xo_no, xo_so, x_tup, x_lst, x_call, x_blt, x_isi, x_mth, x_ixP, x_lenP, x_spc, x_srtK, x_inP, t_inP, r_ownE, r_rem, r_ext, r_augP, r_parL, xs_nil, xs_cons, t_cmp, t_v, t_not, t_bop, t_ite, t_chain, t_isi, t_call, t_gq, t_bl, t_ix, t_bin, t_blt, i_of, n_range1, n_range2, i_zip, i_enum, i_enumz, xc_no, xc_so, fl_nil, fl_cons, bt_n, bt_2, bt_3, wipeE, keepS, backE, ok_bind, ofO_some, datO, List.getElem?_cons_zero, List.getElem?_cons_succ, List.set_cons_zero, List.set_cons_succ, List.map_cons, List.map_nil, dv_add, dv_sub, dv_mul, dv_fdiv, dv_mod, dv_pow, a_int, s_int, d_int, c_le, c_lt, c_gt, c_ge, c_eq, c_ne, e_int, tr_bool, tr_int, tr_none, s_bool, b_bool, b_abs, ip_int, ip_sub, if_true, if_false, eq_self, Bool.not_true, Bool.not_false, Bool.false_eq_true, Bool.true_eq_false, le_0, le_1, le_2, le_3, le_4, ic_lst, endE, Option.map_some, Option.bind_some, hz]) (by omega) (fun q hq => by
      have c : callF P (k + 4) 5 [.d (fr 1), .d (fr q)] = _ := overP (k + 1) sz1 (h q hq).1 (by omega) (od_ne (h q hq))
      rw [one_div] at c
      simp only [it_l, it_t, rs_cons, rs_nil, r_asg, r_asg2, r_par2, r_aug, r_own, r_ownC, r_app, r_setP, r_ifs, r_for, r_fgt, r_ret, r_retD, r_retO, r_mv, r_ex, r_brk, r_cont, r_pass, x_v, x_fz, x_int, x_str, x_bl, x_non, x_neg, x_bin, x_cmp, x_chain, x_bop, x_not, x_ite, x_ix, x_sl, xo_no, xo_so, x_tup, x_lst, x_call, x_blt, x_isi, x_mth, x_ixP, x_lenP, x_spc, x_srtK, x_inP, t_inP, r_ownE, r_rem, r_ext, r_augP, r_parL, xs_nil, xs_cons, t_cmp, t_v, t_not, t_bop, t_ite, t_chain, t_isi, t_call, t_gq, t_bl, t_ix, t_bin, t_blt, i_of, n_range1, n_range2, i_zip, i_enum, i_enumz, xc_no, xc_so, fl_nil, fl_cons, bt_n, bt_2, bt_3, wipeE, keepS, backE, ok_bind, ofO_some, datO, List.getElem?_cons_zero, List.getElem?_cons_succ, List.set_cons_zero, List.set_cons_succ, List.map_cons, List.map_nil, dv_add, dv_sub, dv_mul, dv_fdiv, dv_mod, dv_pow, a_int, s_int, d_int, c_le, c_lt, c_gt, c_ge, c_eq, c_ne, e_int, tr_bool, tr_int, tr_none, s_bool, b_bool, b_abs, ip_int, ip_sub, if_true, if_false, eq_self, Bool.not_true, Bool.not_false, Bool.false_eq_true, Bool.true_eq_false, le_0, le_1, le_2, le_3, le_4, ic_lst, endE, Option.map_some, Option.bind_some, fr_1, c, inv])
  have c2 : callF P (k + 4) 7 [.d (.list (l.map fun q => fr (inv q)))] = _ := sumP k (i := 6) (l.map inv) (fun q hq => by
    obtain ⟨p, hp, rfl⟩ := List.mem_map.mp hq
    exact sz_inv (h p hp).1) (by rw [List.length_map]; omega) (by rw [it_l, List.map_map]; rfl)
  unfold b_round_sum
  simp only [it_l, it_t, rs_cons, rs_nil, r_asg, r_asg2, r_par2, r_aug, r_own, r_ownC, r_app, r_setP, r_ifs, r_for, r_fgt, r_ret, r_retD, r_retO, r_mv, r_ex, r_brk, r_cont, r_pass, x_v, x_fz, x_int, x_str, x_bl, x_non, x_neg, x_bin, x_cmp, x_chain, x_bop, x_not, x_ite, x_ix, x_sl, xo_no, xo_so, x_tup, x_lst, x_call, x_blt, x_isi, x_mth, x_ixP, x_lenP, x_spc, x_srtK, x_inP, t_inP, r_ownE, r_rem, r_ext, r_augP, r_parL, xs_nil, xs_cons, t_cmp, t_v, t_not, t_bop, t_ite, t_chain, t_isi, t_call, t_gq, t_bl, t_ix, t_bin, t_blt, i_of, n_range1, n_range2, i_zip, i_enum, i_enumz, xc_no, xc_so, fl_nil, fl_cons, bt_n, bt_2, bt_3, wipeE, keepS, backE, ok_bind, ofO_some, datO, List.getElem?_cons_zero, List.getElem?_cons_succ, List.set_cons_zero, List.set_cons_succ, List.map_cons, List.map_nil, dv_add, dv_sub, dv_mul, dv_fdiv, dv_mod, dv_pow, a_int, s_int, d_int, c_le, c_lt, c_gt, c_ge, c_eq, c_ne, e_int, tr_bool, tr_int, tr_none, s_bool, b_bool, b_abs, ip_int, ip_sub, if_true, if_false, eq_self, Bool.not_true, Bool.not_false, Bool.false_eq_true, Bool.true_eq_false, le_0, le_1, le_2, le_3, le_4, ic_lst, endE, Option.map_some, Option.bind_some, lc, c2]
  rfl
theorem w_fair (k : Nat) {z : D} (l : List Rat) (h : ∀ q ∈ l, od q) (ne : l ≠ []) (hl : l.length ≤ 4) (hz : itemsD z = some (l.map fr)) : callF P (k + 6) 10 [.d z] = .ok (.d (frs (l.map fun q => inv q / Wh l)), none) := by
  have hL := line_v
  have wp := Wh_pos (fun q hq => od_pos (h q hq)) ne
  have ws := Wh_sz (fun q hq => (h q hq).1) hl
  rw [call_eq (F := ⟨"fair_chances", 1, ["odds", "whole", "one"], false, none, b_fair_chances⟩) rfl ⟨rfl, rfl⟩]
  show (runs P.C P.sub (callF P (k + 5)) b_fair_chances [.d z, .u, .u]).bind _ = _
  have c := w_round k l h hl hz
  have lc := lc_map (C := P.C) (fn := callF P (k + 5)) (σ := [.d z, .d (fr (Wh l)), .u]) (σ1 := [.d z, .d (fr (Wh l)), .u]) (elt := .call 5 [(.call 5 [(.tup [(.int 1), (.int 1)]), (.v 2)]), (.v 1)]) (tg := .n 2) (it := .of (.v 0)) (own := [2]) (l := l) (em := fr) (g := fun q => fr (inv q / Wh l)) (by simp only [it_l, it_t, rs_cons, rs_nil, r_asg, r_asg2, r_par2, r_aug, r_own, r_ownC, r_app, r_setP, r_ifs, r_for, r_fgt, r_ret, r_retD, r_retO, r_mv, r_ex, r_brk, r_cont, r_pass, x_v, x_fz, x_int, x_str, x_bl, x_non, x_neg, x_bin, x_cmp, x_chain, x_bop, x_not, x_ite, x_ix, x_sl, xo_no, xo_so, x_tup, x_lst, x_call, x_blt, x_isi, x_mth, x_ixP, x_lenP, x_spc, x_srtK, x_inP, t_inP, r_ownE, r_rem, r_ext, r_augP, r_parL, xs_nil, xs_cons, t_cmp, t_v, t_not, t_bop, t_ite, t_chain, t_isi, t_call, t_gq, t_bl, t_ix, t_bin, t_blt, i_of, n_range1, n_range2, i_zip, i_enum, i_enumz, xc_no, xc_so, fl_nil, fl_cons, bt_n, bt_2, bt_3, wipeE, keepS, backE, ok_bind, ofO_some, datO, List.getElem?_cons_zero, List.getElem?_cons_succ, List.set_cons_zero, List.set_cons_succ, List.map_cons, List.map_nil, dv_add, dv_sub, dv_mul, dv_fdiv, dv_mod, dv_pow, a_int, s_int, d_int, c_le, c_lt, c_gt, c_ge, c_eq, c_ne, e_int, tr_bool, tr_int, tr_none, s_bool, b_bool, b_abs, ip_int, ip_sub, if_true, if_false, eq_self, Bool.not_true, Bool.not_false, Bool.false_eq_true, Bool.true_eq_false, le_0, le_1, le_2, le_3, le_4, ic_lst, endE, Option.map_some, Option.bind_some, hz]) (by omega) (fun q hq => by
      have c : callF P (k + 5) 5 [.d (fr 1), .d (fr q)] = _ := overP (k + 2) sz1 (h q hq).1 (by omega) (od_ne (h q hq))
      rw [one_div] at c
      have c2 : callF P (k + 5) 5 [.d (fr q⁻¹), .d (fr (Wh l))] = _ := overP (k + 2) (sz_inv (h q hq).1) ws (by omega) (by grind)
      simp only [it_l, it_t, rs_cons, rs_nil, r_asg, r_asg2, r_par2, r_aug, r_own, r_ownC, r_app, r_setP, r_ifs, r_for, r_fgt, r_ret, r_retD, r_retO, r_mv, r_ex, r_brk, r_cont, r_pass, x_v, x_fz, x_int, x_str, x_bl, x_non, x_neg, x_bin, x_cmp, x_chain, x_bop, x_not, x_ite, x_ix, x_sl, xo_no, xo_so, x_tup, x_lst, x_call, x_blt, x_isi, x_mth, x_ixP, x_lenP, x_spc, x_srtK, x_inP, t_inP, r_ownE, r_rem, r_ext, r_augP, r_parL, xs_nil, xs_cons, t_cmp, t_v, t_not, t_bop, t_ite, t_chain, t_isi, t_call, t_gq, t_bl, t_ix, t_bin, t_blt, i_of, n_range1, n_range2, i_zip, i_enum, i_enumz, xc_no, xc_so, fl_nil, fl_cons, bt_n, bt_2, bt_3, wipeE, keepS, backE, ok_bind, ofO_some, datO, List.getElem?_cons_zero, List.getElem?_cons_succ, List.set_cons_zero, List.set_cons_succ, List.map_cons, List.map_nil, dv_add, dv_sub, dv_mul, dv_fdiv, dv_mod, dv_pow, a_int, s_int, d_int, c_le, c_lt, c_gt, c_ge, c_eq, c_ne, e_int, tr_bool, tr_int, tr_none, s_bool, b_bool, b_abs, ip_int, ip_sub, if_true, if_false, eq_self, Bool.not_true, Bool.not_false, Bool.false_eq_true, Bool.true_eq_false, le_0, le_1, le_2, le_3, le_4, ic_lst, endE, Option.map_some, Option.bind_some, fr_1, c, c2, inv])
  unfold b_fair_chances
  simp only [it_l, it_t, rs_cons, rs_nil, r_asg, r_asg2, r_par2, r_aug, r_own, r_ownC, r_app, r_setP, r_ifs, r_for, r_fgt, r_ret, r_retD, r_retO, r_mv, r_ex, r_brk, r_cont, r_pass, x_v, x_fz, x_int, x_str, x_bl, x_non, x_neg, x_bin, x_cmp, x_chain, x_bop, x_not, x_ite, x_ix, x_sl, xo_no, xo_so, x_tup, x_lst, x_call, x_blt, x_isi, x_mth, x_ixP, x_lenP, x_spc, x_srtK, x_inP, t_inP, r_ownE, r_rem, r_ext, r_augP, r_parL, xs_nil, xs_cons, t_cmp, t_v, t_not, t_bop, t_ite, t_chain, t_isi, t_call, t_gq, t_bl, t_ix, t_bin, t_blt, i_of, n_range1, n_range2, i_zip, i_enum, i_enumz, xc_no, xc_so, fl_nil, fl_cons, bt_n, bt_2, bt_3, wipeE, keepS, backE, ok_bind, ofO_some, datO, List.getElem?_cons_zero, List.getElem?_cons_succ, List.set_cons_zero, List.set_cons_succ, List.map_cons, List.map_nil, dv_add, dv_sub, dv_mul, dv_fdiv, dv_mod, dv_pow, a_int, s_int, d_int, c_le, c_lt, c_gt, c_ge, c_eq, c_ne, e_int, tr_bool, tr_int, tr_none, s_bool, b_bool, b_abs, ip_int, ip_sub, if_true, if_false, eq_self, Bool.not_true, Bool.not_false, Bool.false_eq_true, Bool.true_eq_false, le_0, le_1, le_2, le_3, le_4, ic_lst, endE, Option.map_some, Option.bind_some, c, lc]
  unfold frs
  rw [List.map_map]
  rfl
theorem w_fodds (k : Nat) (l : List Rat) {i : Nat} (h : ∀ q ∈ l, sz i q ∧ q ≠ 0) (hi : i < 190) (hl : l.length ≤ 4) : callF P (k + 4) 11 [.d (frs l)] = .ok (.d (frt (l.map inv)), none) := by
  have hL := line_v
  rw [call_eq (F := ⟨"fair_odds", 1, ["chances", "chance"], false, none, b_fair_odds⟩) rfl ⟨rfl, rfl⟩]
  show (runs P.C P.sub (callF P (k + 3)) b_fair_odds [.d (frs l), .u]).bind _ = _
  have lc := lc_map (C := P.C) (fn := callF P (k + 3)) (σ := [.d (frs l), .u]) (σ1 := [.d (frs l), .u]) (elt := .call 5 [(.tup [(.int 1), (.int 1)]), (.v 1)]) (tg := .n 1) (it := .of (.v 0)) (own := [1]) (l := l) (em := fr) (g := fun q => fr (inv q)) (by simp only [it_l, it_t, rs_cons, rs_nil, r_asg, r_asg2, r_par2, r_aug, r_own, r_ownC, r_app, r_setP, r_ifs, r_for, r_fgt, r_ret, r_retD, r_retO, r_mv, r_ex, r_brk, r_cont, r_pass, x_v, x_fz, x_int, x_str, x_bl, x_non, x_neg, x_bin, x_cmp, x_chain, x_bop, x_not, x_ite, x_ix, x_sl, xo_no, xo_so, x_tup, x_lst, x_call, x_blt, x_isi, x_mth, x_ixP, x_lenP, x_spc, x_srtK, x_inP, t_inP, r_ownE, r_rem, r_ext, r_augP, r_parL, xs_nil, xs_cons, t_cmp, t_v, t_not, t_bop, t_ite, t_chain, t_isi, t_call, t_gq, t_bl, t_ix, t_bin, t_blt, i_of, n_range1, n_range2, i_zip, i_enum, i_enumz, xc_no, xc_so, fl_nil, fl_cons, bt_n, bt_2, bt_3, wipeE, keepS, backE, ok_bind, ofO_some, datO, List.getElem?_cons_zero, List.getElem?_cons_succ, List.set_cons_zero, List.set_cons_succ, List.map_cons, List.map_nil, dv_add, dv_sub, dv_mul, dv_fdiv, dv_mod, dv_pow, a_int, s_int, d_int, c_le, c_lt, c_gt, c_ge, c_eq, c_ne, e_int, tr_bool, tr_int, tr_none, s_bool, b_bool, b_abs, ip_int, ip_sub, if_true, if_false, eq_self, Bool.not_true, Bool.not_false, Bool.false_eq_true, Bool.true_eq_false, le_0, le_1, le_2, le_3, le_4, ic_lst, endE, Option.map_some, Option.bind_some, it_frs]) (by omega) (fun q hq => by
      have c : callF P (k + 3) 5 [.d (fr 1), .d (fr q)] = _ := overP k sz1 (h q hq).1 (by omega) (h q hq).2
      rw [one_div] at c
      simp only [it_l, it_t, rs_cons, rs_nil, r_asg, r_asg2, r_par2, r_aug, r_own, r_ownC, r_app, r_setP, r_ifs, r_for, r_fgt, r_ret, r_retD, r_retO, r_mv, r_ex, r_brk, r_cont, r_pass, x_v, x_fz, x_int, x_str, x_bl, x_non, x_neg, x_bin, x_cmp, x_chain, x_bop, x_not, x_ite, x_ix, x_sl, xo_no, xo_so, x_tup, x_lst, x_call, x_blt, x_isi, x_mth, x_ixP, x_lenP, x_spc, x_srtK, x_inP, t_inP, r_ownE, r_rem, r_ext, r_augP, r_parL, xs_nil, xs_cons, t_cmp, t_v, t_not, t_bop, t_ite, t_chain, t_isi, t_call, t_gq, t_bl, t_ix, t_bin, t_blt, i_of, n_range1, n_range2, i_zip, i_enum, i_enumz, xc_no, xc_so, fl_nil, fl_cons, bt_n, bt_2, bt_3, wipeE, keepS, backE, ok_bind, ofO_some, datO, List.getElem?_cons_zero, List.getElem?_cons_succ, List.set_cons_zero, List.set_cons_succ, List.map_cons, List.map_nil, dv_add, dv_sub, dv_mul, dv_fdiv, dv_mod, dv_pow, a_int, s_int, d_int, c_le, c_lt, c_gt, c_ge, c_eq, c_ne, e_int, tr_bool, tr_int, tr_none, s_bool, b_bool, b_abs, ip_int, ip_sub, if_true, if_false, eq_self, Bool.not_true, Bool.not_false, Bool.false_eq_true, Bool.true_eq_false, le_0, le_1, le_2, le_3, le_4, ic_lst, endE, Option.map_some, Option.bind_some, fr_1, c, inv])
  unfold b_fair_odds
  simp only [it_l, it_t, rs_cons, rs_nil, r_asg, r_asg2, r_par2, r_aug, r_own, r_ownC, r_app, r_setP, r_ifs, r_for, r_fgt, r_ret, r_retD, r_retO, r_mv, r_ex, r_brk, r_cont, r_pass, x_v, x_fz, x_int, x_str, x_bl, x_non, x_neg, x_bin, x_cmp, x_chain, x_bop, x_not, x_ite, x_ix, x_sl, xo_no, xo_so, x_tup, x_lst, x_call, x_blt, x_isi, x_mth, x_ixP, x_lenP, x_spc, x_srtK, x_inP, t_inP, r_ownE, r_rem, r_ext, r_augP, r_parL, xs_nil, xs_cons, t_cmp, t_v, t_not, t_bop, t_ite, t_chain, t_isi, t_call, t_gq, t_bl, t_ix, t_bin, t_blt, i_of, n_range1, n_range2, i_zip, i_enum, i_enumz, xc_no, xc_so, fl_nil, fl_cons, bt_n, bt_2, bt_3, wipeE, keepS, backE, ok_bind, ofO_some, datO, List.getElem?_cons_zero, List.getElem?_cons_succ, List.set_cons_zero, List.set_cons_succ, List.map_cons, List.map_nil, dv_add, dv_sub, dv_mul, dv_fdiv, dv_mod, dv_pow, a_int, s_int, d_int, c_le, c_lt, c_gt, c_ge, c_eq, c_ne, e_int, tr_bool, tr_int, tr_none, s_bool, b_bool, b_abs, ip_int, ip_sub, if_true, if_false, eq_self, Bool.not_true, Bool.not_false, Bool.false_eq_true, Bool.true_eq_false, le_0, le_1, le_2, le_3, le_4, ic_lst, endE, Option.map_some, Option.bind_some, lc, t_list]
  unfold frt
  rw [List.map_map]
  rfl
theorem w_gain (k : Nat) {z : D} (l : List Rat) (h : ∀ q ∈ l, od q) (ne : l ≠ []) (hl : l.length ≤ 4) (hz : itemsD z = some (l.map fr)) : callF P (k + 6) 12 [.d z] = .ok (.d (fr (1 - inv (Wh l))), none) := by
  have wp := Wh_pos (fun q hq => od_pos (h q hq)) ne
  have ws := Wh_sz (fun q hq => (h q hq).1) hl
  rw [call_eq (F := ⟨"gain_of", 1, ["odds"], false, none, b_gain_of⟩) rfl ⟨rfl, rfl⟩]
  show (runs P.C P.sub (callF P (k + 5)) b_gain_of [.d z]).bind _ = _
  have c := w_round k l h hl hz
  have c2 : callF P (k + 5) 5 [.d (fr 1), .d (fr (Wh l))] = _ := overP (k + 2) sz1 ws (by omega) (by grind)
  rw [one_div] at c2
  have c3 : callF P (k + 5) 3 [.d (fr 1), .d (fr (Wh l)⁻¹)] = _ := minusP (k + 2) sz1 (sz_inv ws) (by omega)
  unfold b_gain_of
  simp only [it_l, it_t, rs_cons, rs_nil, r_asg, r_asg2, r_par2, r_aug, r_own, r_ownC, r_app, r_setP, r_ifs, r_for, r_fgt, r_ret, r_retD, r_retO, r_mv, r_ex, r_brk, r_cont, r_pass, x_v, x_fz, x_int, x_str, x_bl, x_non, x_neg, x_bin, x_cmp, x_chain, x_bop, x_not, x_ite, x_ix, x_sl, xo_no, xo_so, x_tup, x_lst, x_call, x_blt, x_isi, x_mth, x_ixP, x_lenP, x_spc, x_srtK, x_inP, t_inP, r_ownE, r_rem, r_ext, r_augP, r_parL, xs_nil, xs_cons, t_cmp, t_v, t_not, t_bop, t_ite, t_chain, t_isi, t_call, t_gq, t_bl, t_ix, t_bin, t_blt, i_of, n_range1, n_range2, i_zip, i_enum, i_enumz, xc_no, xc_so, fl_nil, fl_cons, bt_n, bt_2, bt_3, wipeE, keepS, backE, ok_bind, ofO_some, datO, List.getElem?_cons_zero, List.getElem?_cons_succ, List.set_cons_zero, List.set_cons_succ, List.map_cons, List.map_nil, dv_add, dv_sub, dv_mul, dv_fdiv, dv_mod, dv_pow, a_int, s_int, d_int, c_le, c_lt, c_gt, c_ge, c_eq, c_ne, e_int, tr_bool, tr_int, tr_none, s_bool, b_bool, b_abs, ip_int, ip_sub, if_true, if_false, eq_self, Bool.not_true, Bool.not_false, Bool.false_eq_true, Bool.true_eq_false, le_0, le_1, le_2, le_3, le_4, ic_lst, endE, Option.map_some, Option.bind_some, fr_1, c, c2, c3, inv]
theorem w_accum (k : Nat) {z : D} (l : List Rat) (h : ∀ q ∈ l, sz 6 q) (hl : l.length ≤ 4) (hz : itemsD z = some (l.map fr)) : callF P (k + 4) 16 [.d z] = .ok (.d (fr (l.foldl (· * ·) 1)), none) := by
  rw [call_eq (F := ⟨"accumulator", 1, ["parts", "found", "one"], false, none, b_accumulator⟩) rfl ⟨rfl, rfl⟩]
  show (runs P.C P.sub (callF P (k + 3)) b_accumulator [.d z, .u, .u]).bind _ = _
  have lp := forL_fold (b := fun x σ => (ofO (bindT (.n 2) x σ)).bind fun σ1 => runs P.C P.sub (callF P (k + 3)) [.asg (.n 1) (.call 4 [(.v 1), (.v 2)]), .fgt [2]] σ1) (em := fr) (st := fun w : Rat => [.d z, .d (fr w), .u]) (g := (· * ·))
    (fun r w => (∀ p ∈ r, sz 6 p) ∧ ∃ j, sz j w ∧ j + r.length * 6 < 40) l 1 ⟨h, 1, sz1, by omega⟩ (fun p r w ⟨h1, j, h2, h3⟩ => by
      rw [List.length_cons, Nat.add_mul] at h3
      have c := timesP k h2 (h1 p (List.mem_cons_self ..)) (by omega)
      refine ⟨by simp only [it_l, it_t, rs_cons, rs_nil, r_asg, r_asg2, r_par2, r_aug, r_own, r_ownC, r_app, r_setP, r_ifs, r_for, r_fgt, r_ret, r_retD, r_retO, r_mv, r_ex, r_brk, r_cont, r_pass, x_v, x_fz, x_int, x_str, x_bl, x_non, x_neg, x_bin, x_cmp, x_chain, x_bop, x_not, x_ite, x_ix, x_sl, xo_no, xo_so, x_tup, x_lst, x_call, x_blt, x_isi, x_mth, x_ixP, x_lenP, x_spc, x_srtK, x_inP, t_inP, r_ownE, r_rem, r_ext, r_augP, r_parL, xs_nil, xs_cons, t_cmp, t_v, t_not, t_bop, t_ite, t_chain, t_isi, t_call, t_gq, t_bl, t_ix, t_bin, t_blt, i_of, n_range1, n_range2, i_zip, i_enum, i_enumz, xc_no, xc_so, fl_nil, fl_cons, bt_n, bt_2, bt_3, wipeE, keepS, backE, ok_bind, ofO_some, datO, List.getElem?_cons_zero, List.getElem?_cons_succ, List.set_cons_zero, List.set_cons_succ, List.map_cons, List.map_nil, dv_add, dv_sub, dv_mul, dv_fdiv, dv_mod, dv_pow, a_int, s_int, d_int, c_le, c_lt, c_gt, c_ge, c_eq, c_ne, e_int, tr_bool, tr_int, tr_none, s_bool, b_bool, b_abs, ip_int, ip_sub, if_true, if_false, eq_self, Bool.not_true, Bool.not_false, Bool.false_eq_true, Bool.true_eq_false, le_0, le_1, le_2, le_3, le_4, ic_lst, endE, Option.map_some, Option.bind_some, c], fun q hq => h1 q (List.mem_cons_of_mem _ hq), _, sz_mul h2 (h1 p (List.mem_cons_self ..)), by omega⟩)
  have lp1 := lp.1
  simp only [it_l, it_t, rs_cons, rs_nil, r_asg, r_asg2, r_par2, r_aug, r_own, r_ownC, r_app, r_setP, r_ifs, r_for, r_fgt, r_ret, r_retD, r_retO, r_mv, r_ex, r_brk, r_cont, r_pass, x_v, x_fz, x_int, x_str, x_bl, x_non, x_neg, x_bin, x_cmp, x_chain, x_bop, x_not, x_ite, x_ix, x_sl, xo_no, xo_so, x_tup, x_lst, x_call, x_blt, x_isi, x_mth, x_ixP, x_lenP, x_spc, x_srtK, x_inP, t_inP, r_ownE, r_rem, r_ext, r_augP, r_parL, xs_nil, xs_cons, t_cmp, t_v, t_not, t_bop, t_ite, t_chain, t_isi, t_call, t_gq, t_bl, t_ix, t_bin, t_blt, i_of, n_range1, n_range2, i_zip, i_enum, i_enumz, xc_no, xc_so, fl_nil, fl_cons, bt_n, bt_2, bt_3, wipeE, keepS, backE, ok_bind, ofO_some, datO, List.getElem?_cons_zero, List.getElem?_cons_succ, List.set_cons_zero, List.set_cons_succ, List.map_cons, List.map_nil, dv_add, dv_sub, dv_mul, dv_fdiv, dv_mod, dv_pow, a_int, s_int, d_int, c_le, c_lt, c_gt, c_ge, c_eq, c_ne, e_int, tr_bool, tr_int, tr_none, s_bool, b_bool, b_abs, ip_int, ip_sub, if_true, if_false, eq_self, Bool.not_true, Bool.not_false, Bool.false_eq_true, Bool.true_eq_false, le_0, le_1, le_2, le_3, le_4, ic_lst, endE, Option.map_some, Option.bind_some] at lp1
  unfold b_accumulator
  simp only [it_l, it_t, rs_cons, rs_nil, r_asg, r_asg2, r_par2, r_aug, r_own, r_ownC, r_app, r_setP, r_ifs, r_for, r_fgt, r_ret, r_retD, r_retO, r_mv, r_ex, r_brk, r_cont, r_pass, x_v, x_fz, x_int, x_str, x_bl, x_non, x_neg, x_bin, x_cmp, x_chain, x_bop, x_not, x_ite, x_ix, x_sl, xo_no, xo_so, x_tup, x_lst, x_call, x_blt, x_isi, x_mth, x_ixP, x_lenP, x_spc, x_srtK, x_inP, t_inP, r_ownE, r_rem, r_ext, r_augP, r_parL, xs_nil, xs_cons, t_cmp, t_v, t_not, t_bop, t_ite, t_chain, t_isi, t_call, t_gq, t_bl, t_ix, t_bin, t_blt, i_of, n_range1, n_range2, i_zip, i_enum, i_enumz, xc_no, xc_so, fl_nil, fl_cons, bt_n, bt_2, bt_3, wipeE, keepS, backE, ok_bind, ofO_some, datO, List.getElem?_cons_zero, List.getElem?_cons_succ, List.set_cons_zero, List.set_cons_succ, List.map_cons, List.map_nil, dv_add, dv_sub, dv_mul, dv_fdiv, dv_mod, dv_pow, a_int, s_int, d_int, c_le, c_lt, c_gt, c_ge, c_eq, c_ne, e_int, tr_bool, tr_int, tr_none, s_bool, b_bool, b_abs, ip_int, ip_sub, if_true, if_false, eq_self, Bool.not_true, Bool.not_false, Bool.false_eq_true, Bool.true_eq_false, le_0, le_1, le_2, le_3, le_4, ic_lst, endE, Option.map_some, Option.bind_some, fr_1, hz, lp1]
theorem w_asr (k : Nat) {q : Rat} (h : sz 6 q) : callF P (k + 3) 19 [.d (fr q)] = .ok (.d (fr (q - 1)), none) := by
  rw [call_eq (F := ⟨"as_ratio", 1, ["odds"], false, none, b_as_ratio⟩) rfl ⟨rfl, rfl⟩]
  show (runs P.C P.sub (callF P (k + 2)) b_as_ratio [.d (fr q)]).bind _ = _
  have c := fracP k (q.num - (q.den : Nat)) (q.den : Nat) (den_ne q) (Nat.lt_of_lt_of_le (sz_den h) (Nat.pow_le_pow_right (by decide) (by omega)))
  have e := sub_di q 1
  rw [show (1 : Rat).num = 1 from rfl, show (1 : Rat).den = 1 from rfl] at e
  simp only [Int.natCast_one, Int.mul_one, Int.one_mul] at e
  rw [e] at c
  unfold b_as_ratio
  simp only [it_l, it_t, rs_cons, rs_nil, r_asg, r_asg2, r_par2, r_aug, r_own, r_ownC, r_app, r_setP, r_ifs, r_for, r_fgt, r_ret, r_retD, r_retO, r_mv, r_ex, r_brk, r_cont, r_pass, x_v, x_fz, x_int, x_str, x_bl, x_non, x_neg, x_bin, x_cmp, x_chain, x_bop, x_not, x_ite, x_ix, x_sl, xo_no, xo_so, x_tup, x_lst, x_call, x_blt, x_isi, x_mth, x_ixP, x_lenP, x_spc, x_srtK, x_inP, t_inP, r_ownE, r_rem, r_ext, r_augP, r_parL, xs_nil, xs_cons, t_cmp, t_v, t_not, t_bop, t_ite, t_chain, t_isi, t_call, t_gq, t_bl, t_ix, t_bin, t_blt, i_of, n_range1, n_range2, i_zip, i_enum, i_enumz, xc_no, xc_so, fl_nil, fl_cons, bt_n, bt_2, bt_3, wipeE, keepS, backE, ok_bind, ofO_some, datO, List.getElem?_cons_zero, List.getElem?_cons_succ, List.set_cons_zero, List.set_cons_succ, List.map_cons, List.map_nil, dv_add, dv_sub, dv_mul, dv_fdiv, dv_mod, dv_pow, a_int, s_int, d_int, c_le, c_lt, c_gt, c_ge, c_eq, c_ne, e_int, tr_bool, tr_int, tr_none, s_bool, b_bool, b_abs, ip_int, ip_sub, if_true, if_false, eq_self, Bool.not_true, Bool.not_false, Bool.false_eq_true, Bool.true_eq_false, le_0, le_1, le_2, le_3, le_4, ic_lst, endE, Option.map_some, Option.bind_some, ix_fr0, ix_fr1, c]
theorem w_fromr (k : Nat) {q : Rat} {i : Nat} (h : sz i q) (hi : i < 190) : callF P (k + 4) 20 [.d (fr q)] = .ok (.d (fr (q + 1)), none) := by
  rw [call_eq (F := ⟨"from_ratio", 1, ["ratio"], false, none, b_from_ratio⟩) rfl ⟨rfl, rfl⟩]
  show (runs P.C P.sub (callF P (k + 3)) b_from_ratio [.d (fr q)]).bind _ = _
  have c := plusP k h sz1 (by omega)
  unfold b_from_ratio
  simp only [it_l, it_t, rs_cons, rs_nil, r_asg, r_asg2, r_par2, r_aug, r_own, r_ownC, r_app, r_setP, r_ifs, r_for, r_fgt, r_ret, r_retD, r_retO, r_mv, r_ex, r_brk, r_cont, r_pass, x_v, x_fz, x_int, x_str, x_bl, x_non, x_neg, x_bin, x_cmp, x_chain, x_bop, x_not, x_ite, x_ix, x_sl, xo_no, xo_so, x_tup, x_lst, x_call, x_blt, x_isi, x_mth, x_ixP, x_lenP, x_spc, x_srtK, x_inP, t_inP, r_ownE, r_rem, r_ext, r_augP, r_parL, xs_nil, xs_cons, t_cmp, t_v, t_not, t_bop, t_ite, t_chain, t_isi, t_call, t_gq, t_bl, t_ix, t_bin, t_blt, i_of, n_range1, n_range2, i_zip, i_enum, i_enumz, xc_no, xc_so, fl_nil, fl_cons, bt_n, bt_2, bt_3, wipeE, keepS, backE, ok_bind, ofO_some, datO, List.getElem?_cons_zero, List.getElem?_cons_succ, List.set_cons_zero, List.set_cons_succ, List.map_cons, List.map_nil, dv_add, dv_sub, dv_mul, dv_fdiv, dv_mod, dv_pow, a_int, s_int, d_int, c_le, c_lt, c_gt, c_ge, c_eq, c_ne, e_int, tr_bool, tr_int, tr_none, s_bool, b_bool, b_abs, ip_int, ip_sub, if_true, if_false, eq_self, Bool.not_true, Bool.not_false, Bool.false_eq_true, Bool.true_eq_false, le_0, le_1, le_2, le_3, le_4, ic_lst, endE, Option.map_some, Option.bind_some, fr_1, c]
end K28
namespace K28
open PySem N
/-! ### the first greatest -/
def ams (r : List Rat) (b j : Nat) : Nat := if r.getD b 0 < r.getD j 0 then j else b
def am (r : List Rat) : Nat := (List.range' 1 (r.length - 1)).foldl (ams r) 0
/-- b is the first greatest of the first c -/
def Top (r : List Rat) (c b : Nat) : Prop := b < c ∧ (∀ j, j < c → ¬ r.getD b 0 < r.getD j 0) ∧ ∀ j, j < b → r.getD j 0 < r.getD b 0
theorem top_step {r : List Rat} {c b : Nat} (h : Top r c b) : Top r (c + 1) (ams r b c) := by
  obtain ⟨h1, h2, h3⟩ := h
  unfold ams
  by_cases z : r.getD b 0 < r.getD c 0
  · rw [if_pos z]
    refine ⟨Nat.lt_succ_self _, fun j hj => ?_, fun j hj => ?_⟩
    · rcases Nat.lt_succ_iff_lt_or_eq.mp hj with q | q
      · have := h2 j q; grind
      · rw [q]; grind
    · have := h2 j hj; grind
  · rw [if_neg z]
    refine ⟨Nat.lt_succ_of_lt h1, fun j hj => ?_, h3⟩
    rcases Nat.lt_succ_iff_lt_or_eq.mp hj with q | q
    · exact h2 j q
    · rw [q]; exact z
theorem top_fold {r : List Rat} : ∀ (n c b : Nat), Top r c b → Top r (c + n) ((List.range' c n).foldl (ams r) b)
  | 0, c, b, h => h
  | n + 1, c, b, h => by
    rw [List.range'_succ, List.foldl_cons]
    have := top_fold n (c + 1) _ (top_step h)
    rw [Nat.add_assoc, Nat.add_comm 1] at this
    exact this
theorem am_top {r : List Rat} (h : 0 < r.length) : Top r r.length (am r) := by
  have := top_fold (r := r) (r.length - 1) 1 0 ⟨Nat.one_pos, fun j hj => (by
    have e : j = 0 := Nat.lt_one_iff.mp hj
    rw [e]
    grind), fun j hj => absurd hj (Nat.not_lt_zero _)⟩
  rw [show 1 + (r.length - 1) = r.length by omega] at this
  exact this
theorem head_flt {p : Nat → Bool} {n a : Nat} (ha : a < n) (hp : p a = true) (hb : ∀ j, j < a → p j = false) : ∃ r, (List.range n).filter p = a :: r := by
  have e : List.range n = List.range a ++ a :: List.range' (a + 1) (n - a - 1) := by
    rw [List.range_eq_range', List.range_eq_range', ← List.range'_succ, show n - a - 1 + 1 = n - a by omega]
    have := List.range'_append (s := 0) (m := a) (n := n - a) (step := 1)
    rw [Nat.one_mul, Nat.zero_add] at this
    rw [this, show a + (n - a) = n by omega]
  rw [e, List.filter_append, List.filter_cons_of_pos (by rw [hp])]
  have z : (List.range a).filter p = [] := by
    rw [List.filter_eq_nil_iff]
    intro j hj
    rw [hb j (List.mem_range.mp hj)]
    exact Bool.false_ne_true
  rw [z]
  exact ⟨_, rfl⟩
theorem mem_getD {r : List Rat} {x : Rat} (h : x ∈ r) : ∃ j, j < r.length ∧ r.getD j 0 = x := by
  obtain ⟨j, hj, e⟩ := List.mem_iff_getElem.mp h
  exact ⟨j, hj, by rw [List.getD_eq_getElem?_getD, List.getElem?_eq_getElem hj, e]; rfl⟩
theorem getD_mem {r : List Rat} {j : Nat} (h : j < r.length) : r.getD j 0 ∈ r := by
  rw [List.getD_eq_getElem?_getD, List.getElem?_eq_getElem h]
  exact List.getElem_mem h
/-- the law's choice -/
theorem am_law {r : List Rat} (h : 0 < r.length) : ∃ t, (List.range r.length).filter (fun j => !(r.any fun o => decide (r.getD j 0 < o))) = am r :: t := by
  obtain ⟨h1, h2, h3⟩ := am_top h
  refine head_flt h1 ?_ fun j hj => ?_
  · rw [Bool.not_eq_true', List.any_eq_false]
    intro x hx
    obtain ⟨j, hj, rfl⟩ := mem_getD hx
    simpa using h2 j hj
  · rw [Bool.not_eq_false', List.any_eq_true]
    exact ⟨_, getD_mem h1, by simpa using h3 j hj⟩
/-! ### best odds -/
def col (bs : List (List Rat)) (k : Nat) : List Rat := bs.map fun b => b.getD k 0
def bsts (bs : List (List Rat)) (m : Nat) : List (Rat × Nat) := (List.range m).map fun k => ((col bs k).getD (am (col bs k)) 0, am (col bs k))
def pr (p : Rat × Nat) : D := .tuple [fr p.1, .int (p.2 : Nat)]
def bks (bs : List (List Rat)) : D := .list (bs.map frt)
structure okB (bs : List (List Rat)) (m : Nat) : Prop where
  ne : 0 < bs.length
  few : bs.length ≤ 3
  m0 : 0 < m
  m4 : m ≤ 4
  len : ∀ b ∈ bs, b.length = m
  all : ∀ b ∈ bs, ∀ q ∈ b, od q
theorem col_at {bs : List (List Rat)} {k j : Nat} (h : j < bs.length) : (col bs k).getD j 0 = (bs.getD j []).getD k 0 := by
  unfold col
  rw [List.getD_eq_getElem?_getD, List.getElem?_map, List.getD_eq_getElem?_getD (l := bs), List.getElem?_eq_getElem h]
  rfl
theorem bk_mem {bs : List (List Rat)} {j : Nat} (h : j < bs.length) : bs.getD j [] ∈ bs := by
  rw [List.getD_eq_getElem?_getD, List.getElem?_eq_getElem h]
  exact List.getElem_mem h
theorem okB.at {bs : List (List Rat)} {m j k : Nat} (h : okB bs m) (hj : j < bs.length) (hk : k < m) : od ((bs.getD j []).getD k 0) := by
  have hb := bk_mem hj
  exact h.all _ hb _ (getD_mem (by rw [h.len _ hb]; exact hk))
theorem okB.col {bs : List (List Rat)} {m k : Nat} (h : okB bs m) (hk : k < m) : ∀ q ∈ col bs k, od q := fun q hq => by
  obtain ⟨j, hj, rfl⟩ := mem_getD hq
  have hj' : j < bs.length := by unfold K28.col at hj; rwa [List.length_map] at hj
  rw [col_at hj']
  exact h.at hj' hk
theorem col_len {bs : List (List Rat)} {k : Nat} : (col bs k).length = bs.length := by unfold col; rw [List.length_map]
theorem ix_bks (bs : List (List Rat)) (j : Nat) (h : j < bs.length) : idxD (bks bs) (.int (j : Int)) = some (frt (bs.getD j [])) := ix_map frt [] bs j h
theorem ix_bks0 (bs : List (List Rat)) (h : 0 < bs.length) : idxD (bks bs) (.int 0) = some (frt (bs.getD 0 [])) := ix_map0 frt [] bs h
theorem ix_frt (l : List Rat) (j : Nat) (h : j < l.length) : idxD (frt l) (.int (j : Int)) = some (fr (l.getD j 0)) := ixt_map fr 0 l j h
theorem ix_frs (l : List Rat) (j : Nat) (h : j < l.length) : idxD (frs l) (.int (j : Int)) = some (fr (l.getD j 0)) := ix_map fr 0 l j h
end K28
namespace K28
open PySem N
def inB28 : List Cm := [.ifs (.call 6 [(.ix (.ix (.v 0) (.v 3)) (.v 2)), (.ix (.ix (.v 0) (.v 4)) (.v 2))]) [.asg (.n 3) (.v 4)] [], .fgt [4]]
theorem best_in (k : Nat) {bs : List (List Rat)} {m : Nat} (h : okB bs m) {o : Nat} (ho : o < m) (acc : List (Rat × Nat)) {b j : Nat} (hb : b < bs.length) (hj : j < bs.length) :
    ((ofO (bindT (.n 4) (.int (j : Int)) [.d (bks bs), .m false (mL pr acc), .d (.int (o : Int)), .d (.int (b : Int)), .u])).bind fun σ1 => runs P.C P.sub (callF P (k + 1)) inB28 σ1) = .ok (.nx, [.d (bks bs), .m false (mL pr acc), .d (.int (o : Int)), .d (.int (ams (col bs o) b j : Nat)), .u]) := by
  have i1 := ix_bks bs b hb
  have i2 := ix_bks bs j hj
  have l1 : o < (bs.getD b []).length := by rw [h.len _ (bk_mem hb)]; exact ho
  have l2 : o < (bs.getD j []).length := by rw [h.len _ (bk_mem hj)]; exact ho
  have i3 := ix_frt (bs.getD b []) o l1
  have i4 := ix_frt (bs.getD j []) o l2
  have c := lessP k (i := 6) (by omega) (h.at hb ho).1 (h.at hj ho).1
  have e : ams (col bs o) b j = if ((bs.getD b []).getD o 0) < ((bs.getD j []).getD o 0) then j else b := by unfold ams; rw [col_at hb, col_at hj]
  rw [e]
  unfold inB28
  by_cases z : ((bs.getD b []).getD o 0) < ((bs.getD j []).getD o 0)
  · rw [decide_eq_true z] at c
    rw [if_pos z]
    simp only [it_l, it_t, rs_cons, rs_nil, r_asg, r_asg2, r_par2, r_aug, r_own, r_ownC, r_app, r_setP, r_ifs, r_for, r_fgt, r_ret, r_retD, r_retO, r_mv, r_ex, r_brk, r_cont, r_pass, x_v, x_fz, x_int, x_str, x_bl, x_non, x_neg, x_bin, x_cmp, x_chain, x_bop, x_not, x_ite, x_ix, x_sl, xo_no, xo_so, x_tup, x_lst, x_call, x_blt, x_isi, x_mth, x_ixP, x_lenP, x_spc, x_srtK, x_inP, t_inP, r_ownE, r_rem, r_ext, r_augP, r_parL, xs_nil, xs_cons, t_cmp, t_v, t_not, t_bop, t_ite, t_chain, t_isi, t_call, t_gq, t_bl, t_ix, t_bin, t_blt, i_of, n_range1, n_range2, i_zip, i_enum, i_enumz, xc_no, xc_so, fl_nil, fl_cons, bt_n, bt_2, bt_3, wipeE, keepS, backE, ok_bind, ofO_some, datO, List.getElem?_cons_zero, List.getElem?_cons_succ, List.set_cons_zero, List.set_cons_succ, List.map_cons, List.map_nil, dv_add, dv_sub, dv_mul, dv_fdiv, dv_mod, dv_pow, a_int, s_int, d_int, c_le, c_lt, c_gt, c_ge, c_eq, c_ne, e_int, tr_bool, tr_int, tr_none, s_bool, b_bool, b_abs, ip_int, ip_sub, if_true, if_false, eq_self, Bool.not_true, Bool.not_false, Bool.false_eq_true, Bool.true_eq_false, le_0, le_1, le_2, le_3, le_4, ic_lst, endE, Option.map_some, Option.bind_some, i1, i2, i3, i4, c]
  · rw [decide_eq_false z] at c
    rw [if_neg z]
    simp only [it_l, it_t, rs_cons, rs_nil, r_asg, r_asg2, r_par2, r_aug, r_own, r_ownC, r_app, r_setP, r_ifs, r_for, r_fgt, r_ret, r_retD, r_retO, r_mv, r_ex, r_brk, r_cont, r_pass, x_v, x_fz, x_int, x_str, x_bl, x_non, x_neg, x_bin, x_cmp, x_chain, x_bop, x_not, x_ite, x_ix, x_sl, xo_no, xo_so, x_tup, x_lst, x_call, x_blt, x_isi, x_mth, x_ixP, x_lenP, x_spc, x_srtK, x_inP, t_inP, r_ownE, r_rem, r_ext, r_augP, r_parL, xs_nil, xs_cons, t_cmp, t_v, t_not, t_bop, t_ite, t_chain, t_isi, t_call, t_gq, t_bl, t_ix, t_bin, t_blt, i_of, n_range1, n_range2, i_zip, i_enum, i_enumz, xc_no, xc_so, fl_nil, fl_cons, bt_n, bt_2, bt_3, wipeE, keepS, backE, ok_bind, ofO_some, datO, List.getElem?_cons_zero, List.getElem?_cons_succ, List.set_cons_zero, List.set_cons_succ, List.map_cons, List.map_nil, dv_add, dv_sub, dv_mul, dv_fdiv, dv_mod, dv_pow, a_int, s_int, d_int, c_le, c_lt, c_gt, c_ge, c_eq, c_ne, e_int, tr_bool, tr_int, tr_none, s_bool, b_bool, b_abs, ip_int, ip_sub, if_true, if_false, eq_self, Bool.not_true, Bool.not_false, Bool.false_eq_true, Bool.true_eq_false, le_0, le_1, le_2, le_3, le_4, ic_lst, endE, Option.map_some, Option.bind_some, i1, i2, i3, i4, c]
theorem w_best (k : Nat) {bs : List (List Rat)} {m : Nat} (h : okB bs m) : callF P (k + 2) 13 [.d (bks bs)] = .ok (.d (.list ((bsts bs m).map pr)), none) := by
  rw [call_eq (F := ⟨"best_odds", 1, ["books", "found", "outcome", "best", "number"], false, none, b_best_odds⟩) rfl ⟨rfl, rfl⟩]
  show (runs P.C P.sub (callF P (k + 1)) b_best_odds [.d (bks bs), .u, .u, .u, .u]).bind _ = _
  have h0 := h.ne
  have h3 := h.few
  have h4 := h.m4
  have lp := forL_fold (b := fun x σ => (ofO (bindT (.n 2) x σ)).bind fun σ1 => runs P.C P.sub (callF P (k + 1)) [.asg (.n 3) (.int 0), .fgt [4], .for (.n 4) (.range2 (.int 1) (.blt .len [(.v 0)])) inB28, .app 1 (.tup [(.ix (.ix (.v 0) (.v 3)) (.v 2)), (.v 3)]), .fgt [2, 3, 4]] σ1) (em := fun j : Nat => PyData.int (j : Int))
    (st := fun z : List (Rat × Nat) => [.d (bks bs), .m false (mL pr z), .u, .u, .u]) (g := fun z o => z ++ [((col bs o).getD (am (col bs o)) 0, am (col bs o))]) (fun r z => (∀ o ∈ r, o < m) ∧ z.length + r.length ≤ 4) (List.range m) [] ⟨fun o ho => List.mem_range.mp ho, by rw [List.length_range]; simpa using h4⟩ (fun o r z ⟨q1, q2⟩ => by
      rw [List.length_cons] at q2
      have ho := q1 o (List.mem_cons_self ..)
      refine ⟨?_, fun x hx => q1 x (List.mem_cons_of_mem _ hx), by rw [List.length_append, List.length_singleton]; omega⟩
      have li := forL_fold (b := fun x σ => (ofO (bindT (.n 4) x σ)).bind fun σ1 => runs P.C P.sub (callF P (k + 1)) inB28 σ1) (em := fun j : Nat => PyData.int (j : Int)) (st := fun b : Nat => [.d (bks bs), .m false (mL pr z), .d (.int (o : Int)), .d (.int (b : Int)), .u]) (g := ams (col bs o)) (fun r b => b < bs.length ∧ ∀ j ∈ r, j < bs.length) (List.range' 1 (bs.length - 1)) 0 ⟨h0, fun j hj => by
          have := List.mem_range'_1.mp hj
          omega⟩ (fun j r b ⟨g1, g2⟩ => by
          have hj := g2 j (List.mem_cons_self ..)
          refine ⟨best_in k h ho z g1 hj, ?_, fun x hx => g2 x (List.mem_cons_of_mem _ hx)⟩
          unfold ams
          split
          · exact hj
          · exact g1)
      have li1 := li.1
      have ea : (List.range' 1 (bs.length - 1)).foldl (ams (col bs o)) 0 = am (col bs o) := by unfold am; rw [col_len]
      rw [ea] at li1
      have ht := (am_top (r := col bs o) (by rw [col_len]; exact h0)).1
      rw [col_len] at ht
      have r1 := rO_1 bs.length (by omega)
      have ll : bltD .len [bks bs] = some (.int (bs.length : Nat)) := by unfold bks; rw [l_list, List.length_map]
      have i1 := ix_bks bs _ ht
      have i3 := ix_frt (bs.getD (am (col bs o)) []) o (by rw [h.len _ (bk_mem ht)]; exact ho)
      rw [← col_at ht] at i3
      have ap := app_m (C := P.C) (sub := P.sub) (fn := callF P (k + 1)) (em := pr) (σ := [.d (bks bs), .m false (mL pr z), .d (.int (o : Int)), .d (.int (am (col bs o) : Nat)), .u]) (σ' := [.d (bks bs), .m false (mL pr z), .d (.int (o : Int)), .d (.int (am (col bs o) : Nat)), .u]) (j := 1) (e := .tup [(.ix (.ix (.v 0) (.v 3)) (.v 2)), (.v 3)]) (l := z) (x := ((col bs o).getD (am (col bs o)) 0, am (col bs o))) rfl (by simp only [it_l, it_t, rs_cons, rs_nil, r_asg, r_asg2, r_par2, r_aug, r_own, r_ownC, r_app, r_setP, r_ifs, r_for, r_fgt, r_ret, r_retD, r_retO, r_mv, r_ex, r_brk, r_cont, r_pass, x_v, x_fz, x_int, x_str, x_bl, x_non, x_neg, x_bin, x_cmp, x_chain, x_bop, x_not, x_ite, x_ix, x_sl, xo_no, xo_so, x_tup, x_lst, x_call, x_blt, x_isi, x_mth, x_ixP, x_lenP, x_spc, x_srtK, x_inP, t_inP, r_ownE, r_rem, r_ext, r_augP, r_parL, xs_nil, xs_cons, t_cmp, t_v, t_not, t_bop, t_ite, t_chain, t_isi, t_call, t_gq, t_bl, t_ix, t_bin, t_blt, i_of, n_range1, n_range2, i_zip, i_enum, i_enumz, xc_no, xc_so, fl_nil, fl_cons, bt_n, bt_2, bt_3, wipeE, keepS, backE, ok_bind, ofO_some, datO, List.getElem?_cons_zero, List.getElem?_cons_succ, List.set_cons_zero, List.set_cons_succ, List.map_cons, List.map_nil, dv_add, dv_sub, dv_mul, dv_fdiv, dv_mod, dv_pow, a_int, s_int, d_int, c_le, c_lt, c_gt, c_ge, c_eq, c_ne, e_int, tr_bool, tr_int, tr_none, s_bool, b_bool, b_abs, ip_int, ip_sub, if_true, if_false, eq_self, Bool.not_true, Bool.not_false, Bool.false_eq_true, Bool.true_eq_false, le_0, le_1, le_2, le_3, le_4, ic_lst, endE, Option.map_some, Option.bind_some, i1, i3]; rfl) rfl (by omega)
      simp only [Int.natCast_zero, bt_n, ofO_some, ok_bind] at li1
      simp only [it_l, it_t, rs_cons, rs_nil, r_asg, r_asg2, r_par2, r_aug, r_own, r_ownC, r_setP, r_ifs, r_for, r_fgt, r_ret, r_retD, r_retO, r_mv, r_ex, r_brk, r_cont, r_pass, x_v, x_fz, x_int, x_str, x_bl, x_non, x_neg, x_bin, x_cmp, x_chain, x_bop, x_not, x_ite, x_ix, x_sl, xo_no, xo_so, x_tup, x_lst, x_call, x_blt, x_isi, x_mth, x_ixP, x_lenP, x_spc, x_srtK, x_inP, t_inP, r_ownE, r_rem, r_ext, r_augP, r_parL, xs_nil, xs_cons, t_cmp, t_v, t_not, t_bop, t_ite, t_chain, t_isi, t_call, t_gq, t_bl, t_ix, t_bin, t_blt, i_of, n_range1, n_range2, i_zip, i_enum, i_enumz, xc_no, xc_so, fl_nil, fl_cons, bt_n, bt_2, bt_3, wipeE, keepS, backE, ok_bind, ofO_some, datO, List.getElem?_cons_zero, List.getElem?_cons_succ, List.set_cons_zero, List.set_cons_succ, List.map_cons, List.map_nil, dv_add, dv_sub, dv_mul, dv_fdiv, dv_mod, dv_pow, a_int, s_int, d_int, c_le, c_lt, c_gt, c_ge, c_eq, c_ne, e_int, tr_bool, tr_int, tr_none, s_bool, b_bool, b_abs, ip_int, ip_sub, if_true, if_false, eq_self, Bool.not_true, Bool.not_false, Bool.false_eq_true, Bool.true_eq_false, le_0, le_1, le_2, le_3, le_4, ic_lst, endE, Option.map_some, Option.bind_some,  ll, r1, li1, ap])
  have lp1 := lp.1
  have hm : (bs.getD 0 []).length = m := h.len _ (bk_mem h0)
  have r0 := rO_0 m (by omega)
  have ll : bltD .len [frt (bs.getD 0 [])] = some (.int (m : Nat)) := by rw [len_frt, hm]
  have i0 := ix_bks0 bs h0
  have e : (List.range m).foldl (fun z o => z ++ [((col bs o).getD (am (col bs o)) 0, am (col bs o))]) [] = bsts bs m := by
    have : ∀ (l : List Nat) (z : List (Rat × Nat)), l.foldl (fun z o => z ++ [((col bs o).getD (am (col bs o)) 0, am (col bs o))]) z = z ++ l.map fun k => ((col bs k).getD (am (col bs k)) 0, am (col bs k)) := fun l => by
      induction l with
      | nil => intro z; simp
      | cons a l ih => intro z; rw [List.foldl_cons, ih]; simp
    exact (this _ []).trans (List.nil_append _)
  rw [e] at lp1
  unfold inB28 at lp1
  simp only [it_l, it_t, rs_cons, rs_nil, r_asg, r_asg2, r_par2, r_aug, r_own, r_ownC, r_app, r_setP, r_ifs, r_for, r_fgt, r_ret, r_retD, r_retO, r_mv, r_ex, r_brk, r_cont, r_pass, x_v, x_fz, x_int, x_str, x_bl, x_non, x_neg, x_bin, x_cmp, x_chain, x_bop, x_not, x_ite, x_ix, x_sl, xo_no, xo_so, x_tup, x_lst, x_call, x_blt, x_isi, x_mth, x_ixP, x_lenP, x_spc, x_srtK, x_inP, t_inP, r_ownE, r_rem, r_ext, r_augP, r_parL, xs_nil, xs_cons, t_cmp, t_v, t_not, t_bop, t_ite, t_chain, t_isi, t_call, t_gq, t_bl, t_ix, t_bin, t_blt, i_of, n_range1, n_range2, i_zip, i_enum, i_enumz, xc_no, xc_so, fl_nil, fl_cons, bt_n, bt_2, bt_3, wipeE, keepS, backE, ok_bind, ofO_some, datO, List.getElem?_cons_zero, List.getElem?_cons_succ, List.set_cons_zero, List.set_cons_succ, List.map_cons, List.map_nil, dv_add, dv_sub, dv_mul, dv_fdiv, dv_mod, dv_pow, a_int, s_int, d_int, c_le, c_lt, c_gt, c_ge, c_eq, c_ne, e_int, tr_bool, tr_int, tr_none, s_bool, b_bool, b_abs, ip_int, ip_sub, if_true, if_false, eq_self, Bool.not_true, Bool.not_false, Bool.false_eq_true, Bool.true_eq_false, le_0, le_1, le_2, le_3, le_4, ic_lst, endE, Option.map_some, Option.bind_some] at lp1
  unfold b_best_odds
  simp only [it_l, it_t, rs_cons, rs_nil, r_asg, r_asg2, r_par2, r_aug, r_own, r_ownC, r_app, r_setP, r_ifs, r_for, r_fgt, r_ret, r_retD, r_retO, r_mv, r_ex, r_brk, r_cont, r_pass, x_v, x_fz, x_int, x_str, x_bl, x_non, x_neg, x_bin, x_cmp, x_chain, x_bop, x_not, x_ite, x_ix, x_sl, xo_no, xo_so, x_tup, x_lst, x_call, x_blt, x_isi, x_mth, x_ixP, x_lenP, x_spc, x_srtK, x_inP, t_inP, r_ownE, r_rem, r_ext, r_augP, r_parL, xs_nil, xs_cons, t_cmp, t_v, t_not, t_bop, t_ite, t_chain, t_isi, t_call, t_gq, t_bl, t_ix, t_bin, t_blt, i_of, n_range1, n_range2, i_zip, i_enum, i_enumz, xc_no, xc_so, fl_nil, fl_cons, bt_n, bt_2, bt_3, wipeE, keepS, backE, ok_bind, ofO_some, datO, List.getElem?_cons_zero, List.getElem?_cons_succ, List.set_cons_zero, List.set_cons_succ, List.map_cons, List.map_nil, dv_add, dv_sub, dv_mul, dv_fdiv, dv_mod, dv_pow, a_int, s_int, d_int, c_le, c_lt, c_gt, c_ge, c_eq, c_ne, e_int, tr_bool, tr_int, tr_none, s_bool, b_bool, b_abs, ip_int, ip_sub, if_true, if_false, eq_self, Bool.not_true, Bool.not_false, Bool.false_eq_true, Bool.true_eq_false, le_0, le_1, le_2, le_3, le_4, ic_lst, endE, Option.map_some, Option.bind_some, mL_nil pr, i0, ll, r0, lp1, x_fz, mL_toD]
end K28
namespace K28
open PySem N
def bst (bs : List (List Rat)) (m : Nat) : List Rat := (bsts bs m).map (·.1)
theorem bst_len {bs : List (List Rat)} {m : Nat} : (bst bs m).length = m := by unfold bst bsts; rw [List.length_map, List.length_map, List.length_range]
theorem bst_od {bs : List (List Rat)} {m : Nat} (h : okB bs m) : ∀ q ∈ bst bs m, od q := fun q hq => by
  unfold bst bsts at hq
  rw [List.map_map] at hq
  obtain ⟨k, hk, rfl⟩ := List.mem_map.mp hq
  have h0 := h.ne
  exact h.col (List.mem_range.mp hk) _ (getD_mem (am_top (r := col bs k) (by rw [col_len]; exact h0)).1)
theorem bst_ne {bs : List (List Rat)} {m : Nat} (h : okB bs m) : bst bs m ≠ [] := fun e => by
  have := h.m0
  have l := bst_len (bs := bs) (m := m)
  rw [e] at l
  simp at l
  omega
theorem sz_s {s : Nat} (h : s ≤ 100) : sz 7 (s : Rat) := by
  have := sz_int (i := 7) (n := (s : Int)) (by decide) (by rw [Int.natAbs_natCast]; omega)
  exact this
def sure (l : List Rat) (s : Nat) : D := if Wh l < 1 then .tuple [frs (l.map fun q => (s : Rat) / Wh l / q), fr ((s : Rat) / Wh l)] else .none
theorem fr_nat (n : Nat) : (PyData.tuple [.int (n : Int), .int 1] : D) = fr (n : Rat) := fr_int n
theorem w_sure (k : Nat) {bs : List (List Rat)} {m : Nat} (h : okB bs m) (s : Nat) (hs : s ≤ 100) : callF P (k + 6) 14 [.d (bks bs), .d (.int (s : Int))] = .ok (.d (sure (bst bs m) s), none) := by
  have hL := line_v
  have ho := bst_od h
  have h4 := h.m4
  have ll := bst_len (bs := bs) (m := m)
  have wp := Wh_pos (fun q hq => od_pos (ho q hq)) (bst_ne h)
  have ws := Wh_sz (fun q hq => (ho q hq).1) (by omega)
  rw [call_eq (F := ⟨"sure_stakes", 2, ["books", "whole", "odds", "total", "back", "one", "_"], false, none, b_sure_stakes⟩) rfl ⟨rfl, rfl⟩]
  show (runs P.C P.sub (callF P (k + 5)) b_sure_stakes [.d (bks bs), .d (.int (s : Int)), .u, .u, .u, .u, .u]).bind _ = _
  have c1 := w_best (k + 3) h
  have la := lc_map (C := P.C) (fn := callF P (k + 5)) (σ := [.d (bks bs), .d (.int (s : Int)), .u, .u, .u, .u, .u]) (σ1 := [.d (bks bs), .d (.int (s : Int)), .u, .u, .u, .u, .u]) (elt := .v 5) (tg := .t [(.n 5), (.n 6)]) (it := .of (.call 13 [(.v 0)])) (own := [5, 6]) (l := bsts bs m) (em := pr) (g := fun p => fr p.1) (by simp only [it_l, it_t, rs_cons, rs_nil, r_asg, r_asg2, r_par2, r_aug, r_own, r_ownC, r_app, r_setP, r_ifs, r_for, r_fgt, r_ret, r_retD, r_retO, r_mv, r_ex, r_brk, r_cont, r_pass, x_v, x_fz, x_int, x_str, x_bl, x_non, x_neg, x_bin, x_cmp, x_chain, x_bop, x_not, x_ite, x_ix, x_sl, xo_no, xo_so, x_tup, x_lst, x_call, x_blt, x_isi, x_mth, x_ixP, x_lenP, x_spc, x_srtK, x_inP, t_inP, r_ownE, r_rem, r_ext, r_augP, r_parL, xs_nil, xs_cons, t_cmp, t_v, t_not, t_bop, t_ite, t_chain, t_isi, t_call, t_gq, t_bl, t_ix, t_bin, t_blt, i_of, n_range1, n_range2, i_zip, i_enum, i_enumz, xc_no, xc_so, fl_nil, fl_cons, bt_n, bt_2, bt_3, wipeE, keepS, backE, ok_bind, ofO_some, datO, List.getElem?_cons_zero, List.getElem?_cons_succ, List.set_cons_zero, List.set_cons_succ, List.map_cons, List.map_nil, dv_add, dv_sub, dv_mul, dv_fdiv, dv_mod, dv_pow, a_int, s_int, d_int, c_le, c_lt, c_gt, c_ge, c_eq, c_ne, e_int, tr_bool, tr_int, tr_none, s_bool, b_bool, b_abs, ip_int, ip_sub, if_true, if_false, eq_self, Bool.not_true, Bool.not_false, Bool.false_eq_true, Bool.true_eq_false, le_0, le_1, le_2, le_3, le_4, ic_lst, endE, Option.map_some, Option.bind_some, c1]) (by
      have : (bsts bs m).length = m := by unfold bsts; rw [List.length_map, List.length_range]
      omega) (fun p hp => by
      unfold pr
      simp only [it_l, it_t, rs_cons, rs_nil, r_asg, r_asg2, r_par2, r_aug, r_own, r_ownC, r_app, r_setP, r_ifs, r_for, r_fgt, r_ret, r_retD, r_retO, r_mv, r_ex, r_brk, r_cont, r_pass, x_v, x_fz, x_int, x_str, x_bl, x_non, x_neg, x_bin, x_cmp, x_chain, x_bop, x_not, x_ite, x_ix, x_sl, xo_no, xo_so, x_tup, x_lst, x_call, x_blt, x_isi, x_mth, x_ixP, x_lenP, x_spc, x_srtK, x_inP, t_inP, r_ownE, r_rem, r_ext, r_augP, r_parL, xs_nil, xs_cons, t_cmp, t_v, t_not, t_bop, t_ite, t_chain, t_isi, t_call, t_gq, t_bl, t_ix, t_bin, t_blt, i_of, n_range1, n_range2, i_zip, i_enum, i_enumz, xc_no, xc_so, fl_nil, fl_cons, bt_n, bt_2, bt_3, wipeE, keepS, backE, ok_bind, ofO_some, datO, List.getElem?_cons_zero, List.getElem?_cons_succ, List.set_cons_zero, List.set_cons_succ, List.map_cons, List.map_nil, dv_add, dv_sub, dv_mul, dv_fdiv, dv_mod, dv_pow, a_int, s_int, d_int, c_le, c_lt, c_gt, c_ge, c_eq, c_ne, e_int, tr_bool, tr_int, tr_none, s_bool, b_bool, b_abs, ip_int, ip_sub, if_true, if_false, eq_self, Bool.not_true, Bool.not_false, Bool.false_eq_true, Bool.true_eq_false, le_0, le_1, le_2, le_3, le_4, ic_lst, endE, Option.map_some, Option.bind_some])
  have e1 : (bsts bs m).map (fun p => fr p.1) = (bst bs m).map fr := by unfold bst; rw [List.map_map]; rfl
  rw [e1] at la
  have c2 : callF P (k + 5) 9 [.d (.list ((bst bs m).map fr))] = _ := w_round k (bst bs m) ho (by omega) rfl
  have c3 : callF P (k + 5) 6 [.d (fr (Wh (bst bs m))), .d (fr 1)] = _ := lessP (k + 4) (i := 29) (by omega) ws (sz_one (by omega))
  have c4 : callF P (k + 5) 5 [.d (fr (s : Rat)), .d (fr (Wh (bst bs m)))] = _ := overP (k + 2) (sz_s hs) ws (by omega) (by grind)
  have lb := lc_map (C := P.C) (fn := callF P (k + 5)) (σ := [.d (bks bs), .d (.int (s : Int)), .d (.list ((bst bs m).map fr)), .d (fr (Wh (bst bs m))), .d (fr ((s : Rat) / Wh (bst bs m))), .u, .u]) (σ1 := [.d (bks bs), .d (.int (s : Int)), .d (.list ((bst bs m).map fr)), .d (fr (Wh (bst bs m))), .d (fr ((s : Rat) / Wh (bst bs m))), .u, .u]) (elt := .call 5 [(.v 4), (.v 5)]) (tg := .n 5) (it := .of (.v 2)) (own := [5]) (l := bst bs m) (em := fr) (g := fun q => fr ((s : Rat) / Wh (bst bs m) / q)) (by simp only [it_l, it_t, rs_cons, rs_nil, r_asg, r_asg2, r_par2, r_aug, r_own, r_ownC, r_app, r_setP, r_ifs, r_for, r_fgt, r_ret, r_retD, r_retO, r_mv, r_ex, r_brk, r_cont, r_pass, x_v, x_fz, x_int, x_str, x_bl, x_non, x_neg, x_bin, x_cmp, x_chain, x_bop, x_not, x_ite, x_ix, x_sl, xo_no, xo_so, x_tup, x_lst, x_call, x_blt, x_isi, x_mth, x_ixP, x_lenP, x_spc, x_srtK, x_inP, t_inP, r_ownE, r_rem, r_ext, r_augP, r_parL, xs_nil, xs_cons, t_cmp, t_v, t_not, t_bop, t_ite, t_chain, t_isi, t_call, t_gq, t_bl, t_ix, t_bin, t_blt, i_of, n_range1, n_range2, i_zip, i_enum, i_enumz, xc_no, xc_so, fl_nil, fl_cons, bt_n, bt_2, bt_3, wipeE, keepS, backE, ok_bind, ofO_some, datO, List.getElem?_cons_zero, List.getElem?_cons_succ, List.set_cons_zero, List.set_cons_succ, List.map_cons, List.map_nil, dv_add, dv_sub, dv_mul, dv_fdiv, dv_mod, dv_pow, a_int, s_int, d_int, c_le, c_lt, c_gt, c_ge, c_eq, c_ne, e_int, tr_bool, tr_int, tr_none, s_bool, b_bool, b_abs, ip_int, ip_sub, if_true, if_false, eq_self, Bool.not_true, Bool.not_false, Bool.false_eq_true, Bool.true_eq_false, le_0, le_1, le_2, le_3, le_4, ic_lst, endE, Option.map_some, Option.bind_some]) (by omega) (fun q hq => by
      have c : callF P (k + 5) 5 [.d (fr ((s : Rat) / Wh (bst bs m))), .d (fr q)] = _ := overP (k + 2) (sz_div (sz_s hs) ws (by grind)) (ho q hq).1 (by omega) (od_ne (ho q hq))
      simp only [it_l, it_t, rs_cons, rs_nil, r_asg, r_asg2, r_par2, r_aug, r_own, r_ownC, r_app, r_setP, r_ifs, r_for, r_fgt, r_ret, r_retD, r_retO, r_mv, r_ex, r_brk, r_cont, r_pass, x_v, x_fz, x_int, x_str, x_bl, x_non, x_neg, x_bin, x_cmp, x_chain, x_bop, x_not, x_ite, x_ix, x_sl, xo_no, xo_so, x_tup, x_lst, x_call, x_blt, x_isi, x_mth, x_ixP, x_lenP, x_spc, x_srtK, x_inP, t_inP, r_ownE, r_rem, r_ext, r_augP, r_parL, xs_nil, xs_cons, t_cmp, t_v, t_not, t_bop, t_ite, t_chain, t_isi, t_call, t_gq, t_bl, t_ix, t_bin, t_blt, i_of, n_range1, n_range2, i_zip, i_enum, i_enumz, xc_no, xc_so, fl_nil, fl_cons, bt_n, bt_2, bt_3, wipeE, keepS, backE, ok_bind, ofO_some, datO, List.getElem?_cons_zero, List.getElem?_cons_succ, List.set_cons_zero, List.set_cons_succ, List.map_cons, List.map_nil, dv_add, dv_sub, dv_mul, dv_fdiv, dv_mod, dv_pow, a_int, s_int, d_int, c_le, c_lt, c_gt, c_ge, c_eq, c_ne, e_int, tr_bool, tr_int, tr_none, s_bool, b_bool, b_abs, ip_int, ip_sub, if_true, if_false, eq_self, Bool.not_true, Bool.not_false, Bool.false_eq_true, Bool.true_eq_false, le_0, le_1, le_2, le_3, le_4, ic_lst, endE, Option.map_some, Option.bind_some, c])
  have e2 : (bst bs m).map (fun q => fr ((s : Rat) / Wh (bst bs m) / q)) = ((bst bs m).map fun q => (s : Rat) / Wh (bst bs m) / q).map fr := by rw [List.map_map]; rfl
  rw [e2] at lb
  unfold sure b_sure_stakes
  by_cases z : Wh (bst bs m) < 1
  · rw [if_pos z]
    rw [decide_eq_true z] at c3
    simp only [it_l, it_t, rs_cons, rs_nil, r_asg, r_asg2, r_par2, r_aug, r_own, r_ownC, r_app, r_setP, r_ifs, r_for, r_fgt, r_ret, r_retD, r_retO, r_mv, r_ex, r_brk, r_cont, r_pass, x_v, x_fz, x_int, x_str, x_bl, x_non, x_neg, x_bin, x_cmp, x_chain, x_bop, x_not, x_ite, x_ix, x_sl, xo_no, xo_so, x_tup, x_lst, x_call, x_blt, x_isi, x_mth, x_ixP, x_lenP, x_spc, x_srtK, x_inP, t_inP, r_ownE, r_rem, r_ext, r_augP, r_parL, xs_nil, xs_cons, t_cmp, t_v, t_not, t_bop, t_ite, t_chain, t_isi, t_call, t_gq, t_bl, t_ix, t_bin, t_blt, i_of, n_range1, n_range2, i_zip, i_enum, i_enumz, xc_no, xc_so, fl_nil, fl_cons, bt_n, bt_2, bt_3, wipeE, keepS, backE, ok_bind, ofO_some, datO, List.getElem?_cons_zero, List.getElem?_cons_succ, List.set_cons_zero, List.set_cons_succ, List.map_cons, List.map_nil, dv_add, dv_sub, dv_mul, dv_fdiv, dv_mod, dv_pow, a_int, s_int, d_int, c_le, c_lt, c_gt, c_ge, c_eq, c_ne, e_int, tr_bool, tr_int, tr_none, s_bool, b_bool, b_abs, ip_int, ip_sub, if_true, if_false, eq_self, Bool.not_true, Bool.not_false, Bool.false_eq_true, Bool.true_eq_false, le_0, le_1, le_2, le_3, le_4, ic_lst, endE, Option.map_some, Option.bind_some, la, c2, fr_1, c3, fr_nat, c4, lb]
    rfl
  · rw [if_neg z]
    rw [decide_eq_false z] at c3
    simp only [it_l, it_t, rs_cons, rs_nil, r_asg, r_asg2, r_par2, r_aug, r_own, r_ownC, r_app, r_setP, r_ifs, r_for, r_fgt, r_ret, r_retD, r_retO, r_mv, r_ex, r_brk, r_cont, r_pass, x_v, x_fz, x_int, x_str, x_bl, x_non, x_neg, x_bin, x_cmp, x_chain, x_bop, x_not, x_ite, x_ix, x_sl, xo_no, xo_so, x_tup, x_lst, x_call, x_blt, x_isi, x_mth, x_ixP, x_lenP, x_spc, x_srtK, x_inP, t_inP, r_ownE, r_rem, r_ext, r_augP, r_parL, xs_nil, xs_cons, t_cmp, t_v, t_not, t_bop, t_ite, t_chain, t_isi, t_call, t_gq, t_bl, t_ix, t_bin, t_blt, i_of, n_range1, n_range2, i_zip, i_enum, i_enumz, xc_no, xc_so, fl_nil, fl_cons, bt_n, bt_2, bt_3, wipeE, keepS, backE, ok_bind, ofO_some, datO, List.getElem?_cons_zero, List.getElem?_cons_succ, List.set_cons_zero, List.set_cons_succ, List.map_cons, List.map_nil, dv_add, dv_sub, dv_mul, dv_fdiv, dv_mod, dv_pow, a_int, s_int, d_int, c_le, c_lt, c_gt, c_ge, c_eq, c_ne, e_int, tr_bool, tr_int, tr_none, s_bool, b_bool, b_abs, ip_int, ip_sub, if_true, if_false, eq_self, Bool.not_true, Bool.not_false, Bool.false_eq_true, Bool.true_eq_false, le_0, le_1, le_2, le_3, le_4, ic_lst, endE, Option.map_some, Option.bind_some, la, c2, fr_1, c3]
/-! ### what comes of a zip -/
theorem zip_map : ∀ {o c : List Rat} {m : Nat}, o.length = m → c.length = m → zipD (o.map fr) (c.map fr) = (List.range m).map fun k : Nat => .tuple [fr (o.getD k 0), fr (c.getD k 0)]
  | [], [], _, rfl, _ => rfl
  | [], _ :: _, _, h, h' => by simp at h h'; omega
  | _ :: _, [], _, h, h' => by simp at h h'; omega
  | x :: o, y :: c, 0, h, _ => by simp at h
  | x :: o, y :: c, m + 1, h, h' => by
    have ih := zip_map (o := o) (c := c) (m := m) (by simpa using h) (by simpa using h')
    rw [List.map_cons, List.map_cons, zipD, ih, List.range_succ_eq_map, List.map_cons, List.map_map]
    rfl
theorem enz_map : ∀ (n a : Nat) (f : Nat → D), enumD a ((List.range' a n).map f) = (List.range' a n).map fun k : Nat => .tuple [.int (k : Int), f k]
  | 0, a, f => rfl
  | n + 1, a, f => by rw [List.range'_succ, List.map_cons, enumD, enz_map n (a + 1) f, List.map_cons]
theorem enz_map0 (n : Nat) (f : Nat → D) : enumD 0 ((List.range n).map f) = (List.range n).map fun k : Nat => .tuple [.int (k : Int), f k] := by
  rw [List.range_eq_range']; exact enz_map n 0 f
def mb (o c : List Rat) (m : Nat) : List Rat := (List.range m).map fun k => o.getD k 0 * c.getD k 0
theorem w_mean (k : Nat) {o c : List Rat} {m : Nat} (hm : m ≤ 4) (lo : o.length = m) (lc : c.length = m) (ho : ∀ q ∈ o, sz 6 q) (hc : ∀ q ∈ c, sz 40 q) : callF P (k + 4) 17 [.d (frt o), .d (frs c)] = .ok (.d (frs (mb o c m)), none) := by
  have hL := line_v
  rw [call_eq (F := ⟨"mean_back", 2, ["odds", "chances", "one", "chance"], false, none, b_mean_back⟩) rfl ⟨rfl, rfl⟩]
  show (runs P.C P.sub (callF P (k + 3)) b_mean_back [.d (frt o), .d (frs c), .u, .u]).bind _ = _
  have la := lc_map (C := P.C) (fn := callF P (k + 3)) (σ := [.d (frt o), .d (frs c), .u, .u]) (σ1 := [.d (frt o), .d (frs c), .u, .u]) (elt := .call 4 [(.v 2), (.v 3)]) (tg := .t [(.n 2), (.n 3)]) (it := .zip (.v 0) (.v 1)) (own := [2, 3]) (l := List.range m) (em := fun k : Nat => .tuple [fr (o.getD k 0), fr (c.getD k 0)]) (g := fun k => fr (o.getD k 0 * c.getD k 0)) (by simp only [it_l, it_t, rs_cons, rs_nil, r_asg, r_asg2, r_par2, r_aug, r_own, r_ownC, r_app, r_setP, r_ifs, r_for, r_fgt, r_ret, r_retD, r_retO, r_mv, r_ex, r_brk, r_cont, r_pass, x_v, x_fz, x_int, x_str, x_bl, x_non, x_neg, x_bin, x_cmp, x_chain, x_bop, x_not, x_ite, x_ix, x_sl, xo_no, xo_so, x_tup, x_lst, x_call, x_blt, x_isi, x_mth, x_ixP, x_lenP, x_spc, x_srtK, x_inP, t_inP, r_ownE, r_rem, r_ext, r_augP, r_parL, xs_nil, xs_cons, t_cmp, t_v, t_not, t_bop, t_ite, t_chain, t_isi, t_call, t_gq, t_bl, t_ix, t_bin, t_blt, i_of, n_range1, n_range2, i_zip, i_enum, i_enumz, xc_no, xc_so, fl_nil, fl_cons, bt_n, bt_2, bt_3, wipeE, keepS, backE, ok_bind, ofO_some, datO, List.getElem?_cons_zero, List.getElem?_cons_succ, List.set_cons_zero, List.set_cons_succ, List.map_cons, List.map_nil, dv_add, dv_sub, dv_mul, dv_fdiv, dv_mod, dv_pow, a_int, s_int, d_int, c_le, c_lt, c_gt, c_ge, c_eq, c_ne, e_int, tr_bool, tr_int, tr_none, s_bool, b_bool, b_abs, ip_int, ip_sub, if_true, if_false, eq_self, Bool.not_true, Bool.not_false, Bool.false_eq_true, Bool.true_eq_false, le_0, le_1, le_2, le_3, le_4, ic_lst, endE, Option.map_some, Option.bind_some, it_frt, it_frs, zip_map (o := o) (c := c) lo lc]) (by rw [List.length_range]; omega) (fun j hj => by
      have hj := List.mem_range.mp hj
      have t : callF P (k + 3) 4 [.d (fr (o.getD j 0)), .d (fr (c.getD j 0))] = _ := timesP k (ho _ (getD_mem (by omega))) (hc _ (getD_mem (by omega))) (by omega)
      simp only [it_l, it_t, rs_cons, rs_nil, r_asg, r_asg2, r_par2, r_aug, r_own, r_ownC, r_app, r_setP, r_ifs, r_for, r_fgt, r_ret, r_retD, r_retO, r_mv, r_ex, r_brk, r_cont, r_pass, x_v, x_fz, x_int, x_str, x_bl, x_non, x_neg, x_bin, x_cmp, x_chain, x_bop, x_not, x_ite, x_ix, x_sl, xo_no, xo_so, x_tup, x_lst, x_call, x_blt, x_isi, x_mth, x_ixP, x_lenP, x_spc, x_srtK, x_inP, t_inP, r_ownE, r_rem, r_ext, r_augP, r_parL, xs_nil, xs_cons, t_cmp, t_v, t_not, t_bop, t_ite, t_chain, t_isi, t_call, t_gq, t_bl, t_ix, t_bin, t_blt, i_of, n_range1, n_range2, i_zip, i_enum, i_enumz, xc_no, xc_so, fl_nil, fl_cons, bt_n, bt_2, bt_3, wipeE, keepS, backE, ok_bind, ofO_some, datO, List.getElem?_cons_zero, List.getElem?_cons_succ, List.set_cons_zero, List.set_cons_succ, List.map_cons, List.map_nil, dv_add, dv_sub, dv_mul, dv_fdiv, dv_mod, dv_pow, a_int, s_int, d_int, c_le, c_lt, c_gt, c_ge, c_eq, c_ne, e_int, tr_bool, tr_int, tr_none, s_bool, b_bool, b_abs, ip_int, ip_sub, if_true, if_false, eq_self, Bool.not_true, Bool.not_false, Bool.false_eq_true, Bool.true_eq_false, le_0, le_1, le_2, le_3, le_4, ic_lst, endE, Option.map_some, Option.bind_some, t])
  unfold b_mean_back
  simp only [it_l, it_t, rs_cons, rs_nil, r_asg, r_asg2, r_par2, r_aug, r_own, r_ownC, r_app, r_setP, r_ifs, r_for, r_fgt, r_ret, r_retD, r_retO, r_mv, r_ex, r_brk, r_cont, r_pass, x_v, x_fz, x_int, x_str, x_bl, x_non, x_neg, x_bin, x_cmp, x_chain, x_bop, x_not, x_ite, x_ix, x_sl, xo_no, xo_so, x_tup, x_lst, x_call, x_blt, x_isi, x_mth, x_ixP, x_lenP, x_spc, x_srtK, x_inP, t_inP, r_ownE, r_rem, r_ext, r_augP, r_parL, xs_nil, xs_cons, t_cmp, t_v, t_not, t_bop, t_ite, t_chain, t_isi, t_call, t_gq, t_bl, t_ix, t_bin, t_blt, i_of, n_range1, n_range2, i_zip, i_enum, i_enumz, xc_no, xc_so, fl_nil, fl_cons, bt_n, bt_2, bt_3, wipeE, keepS, backE, ok_bind, ofO_some, datO, List.getElem?_cons_zero, List.getElem?_cons_succ, List.set_cons_zero, List.set_cons_succ, List.map_cons, List.map_nil, dv_add, dv_sub, dv_mul, dv_fdiv, dv_mod, dv_pow, a_int, s_int, d_int, c_le, c_lt, c_gt, c_ge, c_eq, c_ne, e_int, tr_bool, tr_int, tr_none, s_bool, b_bool, b_abs, ip_int, ip_sub, if_true, if_false, eq_self, Bool.not_true, Bool.not_false, Bool.false_eq_true, Bool.true_eq_false, le_0, le_1, le_2, le_3, le_4, ic_lst, endE, Option.map_some, Option.bind_some, la]
  unfold frs mb
  rw [List.map_map]
  rfl
/-! ### the worst result -/
def lft (o s : List Rat) (m : Nat) : List Rat := (List.range m).map fun k => o.getD k 0 * s.getD k 0 - rsum s
def ng (l : List Rat) : List Rat := l.map fun q => -q
theorem getD_map {α : Type} (f : α → Rat) (d : α) {l : List α} {j : Nat} (h : j < l.length) : (l.map f).getD j 0 = f (l.getD j d) := by
  rw [List.getD_eq_getElem?_getD, List.getElem?_map, List.getD_eq_getElem?_getD, List.getElem?_eq_getElem h]
  rfl
theorem range_getD {m j : Nat} (h : j < m) : (List.range m).getD j 0 = j := by
  rw [List.getD_eq_getElem?_getD, List.getElem?_range h]
  rfl
theorem lft_at {o s : List Rat} {m j : Nat} (h : j < m) : (lft o s m).getD j 0 = o.getD j 0 * s.getD j 0 - rsum s := by
  unfold lft
  rw [getD_map _ 0 (by rw [List.length_range]; exact h), range_getD h]
theorem ng_at {l : List Rat} {j : Nat} (h : j < l.length) : (ng l).getD j 0 = -(l.getD j 0) := getD_map _ 0 h
theorem ng_len {l : List Rat} : (ng l).length = l.length := by unfold ng; rw [List.length_map]
theorem lft_len {o s : List Rat} {m : Nat} : (lft o s m).length = m := by unfold lft; rw [List.length_map, List.length_range]
def wo (l : List Rat) : Nat := am (ng l)
theorem wo_lt {l : List Rat} (h : 0 < l.length) : wo l < l.length := by
  have := (am_top (r := ng l) (by rw [ng_len]; exact h)).1
  rwa [ng_len] at this
theorem wo_law {l : List Rat} (h : 0 < l.length) : ∃ t, (List.range l.length).filter (fun j => !(l.any fun o => decide (o < l.getD j 0))) = wo l :: t := by
  obtain ⟨t, e⟩ := am_law (r := ng l) (by rw [ng_len]; exact h)
  refine ⟨t, ?_⟩
  rw [ng_len] at e
  show _ = am (ng l) :: t
  rw [← e]
  refine List.filter_congr fun j hj => ?_
  have hj := List.mem_range.mp hj
  rw [ng_at hj]
  unfold ng
  rw [List.any_map]
  congr 1
  refine congrArg (fun f => l.any f) (funext fun x => ?_)
  show decide (x < l.getD j 0) = decide (-l.getD j 0 < -x)
  rw [decide_eq_decide]
  constructor <;> intro z <;> grind
def bD (l : List Rat) : Option Nat → D
  | none => .none
  | some b => .tuple [fr (l.getD b 0), .int (b : Int)]
theorem bD_none (l : List Rat) : bD l none = .none := rfl
def wg (l : List Rat) (b : Option Nat) (j : Nat) : Option Nat := match b with
  | none => some j
  | some b => some (ams (ng l) b j)
theorem wg_fold (l : List Rat) : ∀ (n c b : Nat), (List.range' c n).foldl (wg l) (some b) = some ((List.range' c n).foldl (ams (ng l)) b)
  | 0, _, _ => rfl
  | n + 1, c, b => by rw [List.range'_succ, List.foldl_cons, List.foldl_cons]; exact wg_fold l n (c + 1) _
theorem wg_all {l : List Rat} (h : 0 < l.length) : (List.range l.length).foldl (wg l) none = some (wo l) := by
  rw [List.range_eq_range']
  obtain ⟨n, e⟩ : ∃ n, l.length = n + 1 := ⟨l.length - 1, by omega⟩
  rw [e, List.range'_succ, List.foldl_cons]
  show (List.range' 1 n).foldl (wg l) (some 0) = _
  rw [wg_fold]
  unfold wo am
  rw [ng_len, e]
  rfl
theorem bt_nn {i j l : Nat} {σ : En} {x y z : D} : bindT (.t [.n i, .t [.n j, .n l]]) (.tuple [x, .tuple [y, z]]) σ = some (((σ.set i (.d x)).set j (.d y)).set l (.d z)) := rfl
theorem is_tup {xs : List D} : cmpD .is (.tuple xs) .none = some false := rfl
theorem w_worst (k : Nat) {o s : List Rat} {m : Nat} (h0 : 0 < m) (hm : m ≤ 4) (lo : o.length = m) (ls : s.length = m) (ho : ∀ q ∈ o, sz 6 q) (hs : ∀ q ∈ s, sz 5 q) : callF P (k + 5) 15 [.d (frt o), .d (frs s)] = .ok (.d (bD (lft o s m) (some (wo (lft o s m)))), none) := by
  rw [call_eq (F := ⟨"worst_result", 2, ["odds", "stakes", "paid", "best", "number", "left", "one", "stake"], false, none, b_worst_result⟩) rfl ⟨rfl, rfl⟩]
  show (runs P.C P.sub (callF P (k + 4)) b_worst_result [.d (frt o), .d (frs s), .u, .u, .u, .u, .u, .u]).bind _ = _
  have c1 : callF P (k + 4) 7 [.d (frs s)] = _ := sumP k (i := 5) s hs (by omega) rfl
  have sp : sz 25 (rsum s) := sz_mono (sz_rsum hs) (by omega)
  have sl : ∀ j, j < m → sz 37 ((lft o s m).getD j 0) := fun j hj => by
    rw [lft_at hj]
    exact sz_sub (sz_mul (ho _ (getD_mem (by omega))) (hs _ (getD_mem (by omega)))) sp
  have lp := forL_fold (b := fun x σ => (ofO (bindT (.t [(.n 4), (.t [(.n 6), (.n 7)])]) x σ)).bind fun σ1 => runs P.C P.sub (callF P (k + 4)) [.asg (.n 5) (.call 3 [(.call 4 [(.v 6), (.v 7)]), (.v 2)]), .ifs (.bop false (.cmp .is (.v 3) .non) (.call 6 [(.v 5), (.ix (.v 3) (.int 0))])) [.asg (.n 3) (.tup [(.v 5), (.v 4)])] [], .fgt [4, 5, 6, 7]] σ1)
    (em := fun j : Nat => PyData.tuple [.int (j : Int), .tuple [fr (o.getD j 0), fr (s.getD j 0)]]) (st := fun b : Option Nat => [.d (frt o), .d (frs s), .d (fr (rsum s)), .d (bD (lft o s m) b), .u, .u, .u, .u]) (g := wg (lft o s m)) (fun r b => (∀ j ∈ r, j < m) ∧ ∀ x, b = some x → x < m) (List.range m) none ⟨fun j hj => List.mem_range.mp hj, fun x e => nomatch e⟩ (fun j r b ⟨q1, q2⟩ => by
      have hj := q1 j (List.mem_cons_self ..)
      have c2 : callF P (k + 4) 4 [.d (fr (o.getD j 0)), .d (fr (s.getD j 0))] = _ := timesP (k + 1) (ho _ (getD_mem (by omega))) (hs _ (getD_mem (by omega))) (by omega)
      have c3 : callF P (k + 4) 3 [.d (fr (o.getD j 0 * s.getD j 0)), .d (fr (rsum s))] = _ := minusP (k + 1) (sz_mul (ho _ (getD_mem (by omega))) (hs _ (getD_mem (by omega)))) sp (by omega)
      rw [← lft_at hj] at c3
      cases b with
      | none =>
        refine ⟨?_, fun x hx => q1 x (List.mem_cons_of_mem _ hx), fun x e => by cases e; exact hj⟩
        show _ = Res.ok (Fl.nx, [_, _, _, Slot.d (.tuple [fr ((lft o s m).getD j 0), .int (j : Int)]), _, _, _, _])
        unfold bD
        simp only [it_l, it_t, rs_cons, rs_nil, r_asg, r_asg2, r_par2, r_aug, r_own, r_ownC, r_app, r_setP, r_ifs, r_for, r_fgt, r_ret, r_retD, r_retO, r_mv, r_ex, r_brk, r_cont, r_pass, x_v, x_fz, x_int, x_str, x_bl, x_non, x_neg, x_bin, x_cmp, x_chain, x_bop, x_not, x_ite, x_ix, x_sl, xo_no, xo_so, x_tup, x_lst, x_call, x_blt, x_isi, x_mth, x_ixP, x_lenP, x_spc, x_srtK, x_inP, t_inP, r_ownE, r_rem, r_ext, r_augP, r_parL, xs_nil, xs_cons, t_cmp, t_v, t_not, t_bop, t_ite, t_chain, t_isi, t_call, t_gq, t_bl, t_ix, t_bin, t_blt, i_of, n_range1, n_range2, i_zip, i_enum, i_enumz, xc_no, xc_so, fl_nil, fl_cons, bt_n, bt_2, bt_3, wipeE, keepS, backE, ok_bind, ofO_some, datO, List.getElem?_cons_zero, List.getElem?_cons_succ, List.set_cons_zero, List.set_cons_succ, List.map_cons, List.map_nil, dv_add, dv_sub, dv_mul, dv_fdiv, dv_mod, dv_pow, a_int, s_int, d_int, c_le, c_lt, c_gt, c_ge, c_eq, c_ne, e_int, tr_bool, tr_int, tr_none, s_bool, b_bool, b_abs, ip_int, ip_sub, if_true, if_false, eq_self, Bool.not_true, Bool.not_false, Bool.false_eq_true, Bool.true_eq_false, le_0, le_1, le_2, le_3, le_4, ic_lst, endE, Option.map_some, Option.bind_some, bt_nn, c2, c3, c_isN]
      | some b =>
        have hb := q2 b rfl
        have c4 := lessP (k + 3) (i := 37) (by omega) (sl j hj) (sl b hb)
        have e : ams (ng (lft o s m)) b j = if (lft o s m).getD j 0 < (lft o s m).getD b 0 then j else b := by
          unfold ams
          rw [ng_at (by rw [lft_len]; exact hb), ng_at (by rw [lft_len]; exact hj)]
          by_cases z : (lft o s m).getD j 0 < (lft o s m).getD b 0
          · rw [if_pos z, if_pos (by grind)]
          · rw [if_neg z, if_neg (by grind)]
        have i0 : idxD (.tuple [fr ((lft o s m).getD b 0), .int (b : Int)]) (.int 0) = some (fr ((lft o s m).getD b 0)) := rfl
        refine ⟨?_, fun x hx => q1 x (List.mem_cons_of_mem _ hx), fun x e2 => by
          cases e2
          rw [e]
          split
          · exact hj
          · exact hb⟩
        show _ = Res.ok (Fl.nx, [_, _, _, Slot.d (.tuple [fr ((lft o s m).getD (ams (ng (lft o s m)) b j) 0), .int (ams (ng (lft o s m)) b j : Nat)]), _, _, _, _])
        rw [e]
        unfold bD
        by_cases z : (lft o s m).getD j 0 < (lft o s m).getD b 0
        · rw [decide_eq_true z] at c4
          rw [if_pos z]
          simp only [it_l, it_t, rs_cons, rs_nil, r_asg, r_asg2, r_par2, r_aug, r_own, r_ownC, r_app, r_setP, r_ifs, r_for, r_fgt, r_ret, r_retD, r_retO, r_mv, r_ex, r_brk, r_cont, r_pass, x_v, x_fz, x_int, x_str, x_bl, x_non, x_neg, x_bin, x_cmp, x_chain, x_bop, x_not, x_ite, x_ix, x_sl, xo_no, xo_so, x_tup, x_lst, x_call, x_blt, x_isi, x_mth, x_ixP, x_lenP, x_spc, x_srtK, x_inP, t_inP, r_ownE, r_rem, r_ext, r_augP, r_parL, xs_nil, xs_cons, t_cmp, t_v, t_not, t_bop, t_ite, t_chain, t_isi, t_call, t_gq, t_bl, t_ix, t_bin, t_blt, i_of, n_range1, n_range2, i_zip, i_enum, i_enumz, xc_no, xc_so, fl_nil, fl_cons, bt_n, bt_2, bt_3, wipeE, keepS, backE, ok_bind, ofO_some, datO, List.getElem?_cons_zero, List.getElem?_cons_succ, List.set_cons_zero, List.set_cons_succ, List.map_cons, List.map_nil, dv_add, dv_sub, dv_mul, dv_fdiv, dv_mod, dv_pow, a_int, s_int, d_int, c_le, c_lt, c_gt, c_ge, c_eq, c_ne, e_int, tr_bool, tr_int, tr_none, s_bool, b_bool, b_abs, ip_int, ip_sub, if_true, if_false, eq_self, Bool.not_true, Bool.not_false, Bool.false_eq_true, Bool.true_eq_false, le_0, le_1, le_2, le_3, le_4, ic_lst, endE, Option.map_some, Option.bind_some, bt_nn, c2, c3, is_tup, i0, c4]
        · rw [decide_eq_false z] at c4
          rw [if_neg z]
          simp only [it_l, it_t, rs_cons, rs_nil, r_asg, r_asg2, r_par2, r_aug, r_own, r_ownC, r_app, r_setP, r_ifs, r_for, r_fgt, r_ret, r_retD, r_retO, r_mv, r_ex, r_brk, r_cont, r_pass, x_v, x_fz, x_int, x_str, x_bl, x_non, x_neg, x_bin, x_cmp, x_chain, x_bop, x_not, x_ite, x_ix, x_sl, xo_no, xo_so, x_tup, x_lst, x_call, x_blt, x_isi, x_mth, x_ixP, x_lenP, x_spc, x_srtK, x_inP, t_inP, r_ownE, r_rem, r_ext, r_augP, r_parL, xs_nil, xs_cons, t_cmp, t_v, t_not, t_bop, t_ite, t_chain, t_isi, t_call, t_gq, t_bl, t_ix, t_bin, t_blt, i_of, n_range1, n_range2, i_zip, i_enum, i_enumz, xc_no, xc_so, fl_nil, fl_cons, bt_n, bt_2, bt_3, wipeE, keepS, backE, ok_bind, ofO_some, datO, List.getElem?_cons_zero, List.getElem?_cons_succ, List.set_cons_zero, List.set_cons_succ, List.map_cons, List.map_nil, dv_add, dv_sub, dv_mul, dv_fdiv, dv_mod, dv_pow, a_int, s_int, d_int, c_le, c_lt, c_gt, c_ge, c_eq, c_ne, e_int, tr_bool, tr_int, tr_none, s_bool, b_bool, b_abs, ip_int, ip_sub, if_true, if_false, eq_self, Bool.not_true, Bool.not_false, Bool.false_eq_true, Bool.true_eq_false, le_0, le_1, le_2, le_3, le_4, ic_lst, endE, Option.map_some, Option.bind_some, bt_nn, c2, c3, is_tup, i0, c4])
  have lp1 := lp.1
  have wa := wg_all (l := lft o s m) (by rw [lft_len]; exact h0)
  rw [lft_len] at wa
  rw [wa] at lp1
  simp only [it_l, it_t, rs_cons, rs_nil, r_asg, r_asg2, r_par2, r_aug, r_own, r_ownC, r_app, r_setP, r_ifs, r_for, r_fgt, r_ret, r_retD, r_retO, r_mv, r_ex, r_brk, r_cont, r_pass, x_v, x_fz, x_int, x_str, x_bl, x_non, x_neg, x_bin, x_cmp, x_chain, x_bop, x_not, x_ite, x_ix, x_sl, xo_no, xo_so, x_tup, x_lst, x_call, x_blt, x_isi, x_mth, x_ixP, x_lenP, x_spc, x_srtK, x_inP, t_inP, r_ownE, r_rem, r_ext, r_augP, r_parL, xs_nil, xs_cons, t_cmp, t_v, t_not, t_bop, t_ite, t_chain, t_isi, t_call, t_gq, t_bl, t_ix, t_bin, t_blt, i_of, n_range1, n_range2, i_zip, i_enum, i_enumz, xc_no, xc_so, fl_nil, fl_cons, bt_n, bt_2, bt_3, wipeE, keepS, backE, ok_bind, ofO_some, datO, List.getElem?_cons_zero, List.getElem?_cons_succ, List.set_cons_zero, List.set_cons_succ, List.map_cons, List.map_nil, dv_add, dv_sub, dv_mul, dv_fdiv, dv_mod, dv_pow, a_int, s_int, d_int, c_le, c_lt, c_gt, c_ge, c_eq, c_ne, e_int, tr_bool, tr_int, tr_none, s_bool, b_bool, b_abs, ip_int, ip_sub, if_true, if_false, eq_self, Bool.not_true, Bool.not_false, Bool.false_eq_true, Bool.true_eq_false, le_0, le_1, le_2, le_3, le_4, ic_lst, endE, Option.map_some, Option.bind_some, bD_none] at lp1
  have hz := zip_map (o := o) (c := s) lo ls
  unfold b_worst_result
  simp only [it_l, it_t, rs_cons, rs_nil, r_asg, r_asg2, r_par2, r_aug, r_own, r_ownC, r_app, r_setP, r_ifs, r_for, r_fgt, r_ret, r_retD, r_retO, r_mv, r_ex, r_brk, r_cont, r_pass, x_v, x_fz, x_int, x_str, x_bl, x_non, x_neg, x_bin, x_cmp, x_chain, x_bop, x_not, x_ite, x_ix, x_sl, xo_no, xo_so, x_tup, x_lst, x_call, x_blt, x_isi, x_mth, x_ixP, x_lenP, x_spc, x_srtK, x_inP, t_inP, r_ownE, r_rem, r_ext, r_augP, r_parL, xs_nil, xs_cons, t_cmp, t_v, t_not, t_bop, t_ite, t_chain, t_isi, t_call, t_gq, t_bl, t_ix, t_bin, t_blt, i_of, n_range1, n_range2, i_zip, i_enum, i_enumz, xc_no, xc_so, fl_nil, fl_cons, bt_n, bt_2, bt_3, wipeE, keepS, backE, ok_bind, ofO_some, datO, List.getElem?_cons_zero, List.getElem?_cons_succ, List.set_cons_zero, List.set_cons_succ, List.map_cons, List.map_nil, dv_add, dv_sub, dv_mul, dv_fdiv, dv_mod, dv_pow, a_int, s_int, d_int, c_le, c_lt, c_gt, c_ge, c_eq, c_ne, e_int, tr_bool, tr_int, tr_none, s_bool, b_bool, b_abs, ip_int, ip_sub, if_true, if_false, eq_self, Bool.not_true, Bool.not_false, Bool.false_eq_true, Bool.true_eq_false, le_0, le_1, le_2, le_3, le_4, ic_lst, endE, Option.map_some, Option.bind_some, c1, it_frt, it_frs, hz, enz_map0, lp1]
end K28
namespace K28
open PySem N
/-! ### doubles -/
def bls (l : List Bool) : D := .list (l.map .bool)
def wn (w : List Bool) (j k : Nat) : Bool := w.getD j false && w.getD k false
def dbl (o : List Rat) (w : List Bool) (k : Nat) : List Rat := ((List.range k).filter fun j => wn w j k).map fun j => o.getD j 0 * o.getD k 0
def dbls (o : List Rat) (w : List Bool) (m : Nat) : List Rat := (List.range m).flatMap (dbl o w)
theorem ix_bls (l : List Bool) (j : Nat) (h : j < l.length) : idxD (bls l) (.int (j : Int)) = some (.bool (l.getD j false)) := ix_map .bool false l j h
def dg (o : List Rat) (w : List Bool) (k : Nat) (z : Rat) (j : Nat) : Rat := if wn w j k then z + o.getD j 0 * o.getD k 0 else z
theorem dg_fold (o : List Rat) (w : List Bool) (k : Nat) : ∀ (l : List Nat) (z : Rat), l.foldl (dg o w k) z = ((l.filter fun j => wn w j k).map fun j => o.getD j 0 * o.getD k 0).foldl (· + ·) z
  | [], z => rfl
  | j :: l, z => by
    rw [List.foldl_cons, dg_fold o w k l]
    unfold dg
    cases h : wn w j k with
    | true => rw [List.filter_cons_of_pos (by simpa using h)]; rfl
    | false => rw [List.filter_cons_of_neg (by simp [h])]; rfl
theorem dgs_fold (o : List Rat) (w : List Bool) : ∀ (l : List Nat) (z : Rat), l.foldl (fun z k => (List.range k).foldl (dg o w k) z) z = (l.flatMap (dbl o w)).foldl (· + ·) z
  | [], z => rfl
  | k :: l, z => by
    rw [List.foldl_cons, dgs_fold o w l, List.flatMap_cons, List.foldl_append, dg_fold]
    rfl
theorem dg_sz {o : List Rat} {w : List Bool} {m : Nat} (lo : o.length = m) (ho : ∀ q ∈ o, sz 6 q) {k : Nat} (hk : k < m) : ∀ (l : List Nat) {i : Nat} {z : Rat}, sz i z → (∀ j ∈ l, j < m) → sz (i + 13 * l.length) (l.foldl (dg o w k) z)
  | [], i, z, hz, _ => hz
  | j :: l, i, z, hz, h => by
    have hj := h j (List.mem_cons_self ..)
    rw [List.foldl_cons, List.length_cons]
    have : sz (i + 13) (dg o w k z j) := by
      unfold dg
      split
      · exact sz_add hz (sz_mul (ho _ (getD_mem (by omega))) (ho _ (getD_mem (by omega))))
      · exact sz_mono hz (by omega)
    exact sz_mono (dg_sz lo ho hk l this fun x hx => h x (List.mem_cons_of_mem _ hx)) (by omega)
def dblB : List Cm := [.ifs (.bop true (.ix (.v 1) (.v 3)) (.ix (.v 1) (.v 4))) [.asg (.n 2) (.call 2 [(.v 2), (.call 4 [(.ix (.v 0) (.v 3)), (.ix (.v 0) (.v 4))])])] [], .fgt [4]]
theorem tr_bl {b : Bool} : trD (.bool b) = some b := rfl
theorem w_dbl (n : Nat) {o : List Rat} {w : List Bool} {m : Nat} (hm : m ≤ 4) (lo : o.length = m) (lw : w.length = m) (ho : ∀ q ∈ o, sz 6 q) : callF P (n + 4) 18 [.d (frt o), .d (bls w)] = .ok (.d (fr (rsum (dbls o w m))), none) := by
  rw [call_eq (F := ⟨"all_doubles", 2, ["parts", "won", "found", "late", "early"], false, none, b_all_doubles⟩) rfl ⟨rfl, rfl⟩]
  show (runs P.C P.sub (callF P (n + 3)) b_all_doubles [.d (frt o), .d (bls w), .u, .u, .u]).bind _ = _
  have lp := forL_fold (b := fun x σ => (ofO (bindT (.n 3) x σ)).bind fun σ1 => runs P.C P.sub (callF P (n + 3)) [.fgt [4], .for (.n 4) (.range1 (.v 3)) dblB, .fgt [3, 4]] σ1) (em := fun j : Nat => PyData.int (j : Int)) (st := fun z : Rat => [.d (frt o), .d (bls w), .d (fr z), .u, .u]) (g := fun z k => (List.range k).foldl (dg o w k) z)
    (fun r z => (∀ k ∈ r, k < m) ∧ ∃ i, sz i z ∧ i + 39 * r.length < 180) (List.range m) 0 ⟨fun k hk => List.mem_range.mp hk, 1, ⟨by decide, by decide⟩, by rw [List.length_range]; omega⟩ (fun k r z ⟨q1, i, q2, q3⟩ => by
      have hk := q1 k (List.mem_cons_self ..)
      rw [List.length_cons] at q3
      have lsz := dg_sz (w := w) lo ho hk (List.range k) q2 fun j hj => by have := List.mem_range.mp hj; omega
      rw [List.length_range] at lsz
      refine ⟨?_, fun x hx => q1 x (List.mem_cons_of_mem _ hx), i + 13 * k, lsz, by omega⟩
      have li := forL_fold (b := fun x σ => (ofO (bindT (.n 4) x σ)).bind fun σ1 => runs P.C P.sub (callF P (n + 3)) dblB σ1) (em := fun j : Nat => PyData.int (j : Int)) (st := fun z : Rat => [.d (frt o), .d (bls w), .d (fr z), .d (.int (k : Int)), .u]) (g := dg o w k)
        (fun r z => (∀ j ∈ r, j < k) ∧ ∃ i, sz i z ∧ i + 13 * r.length < 180) (List.range k) z ⟨fun j hj => List.mem_range.mp hj, i, q2, by rw [List.length_range]; omega⟩ (fun j r z ⟨g1, i, g2, g3⟩ => by
          have hj := g1 j (List.mem_cons_self ..)
          rw [List.length_cons] at g3
          have s1 := ho _ (getD_mem (r := o) (j := k) (by omega))
          have s2 := ho _ (getD_mem (r := o) (j := j) (by omega))
          have c1 : callF P (n + 3) 4 [.d (fr (o.getD k 0)), .d (fr (o.getD j 0))] = _ := timesP n s1 s2 (by omega)
          have c2 : callF P (n + 3) 2 [.d (fr z), .d (fr (o.getD k 0 * o.getD j 0))] = _ := plusP n g2 (sz_mul s1 s2) (by omega)
          have i1 := ix_bls w k (by omega)
          have i2 := ix_bls w j (by omega)
          have i3 := ix_frt o k (by omega)
          have i4 := ix_frt o j (by omega)
          refine ⟨?_, fun x hx => g1 x (List.mem_cons_of_mem _ hx), i + 13, ?_, by omega⟩
          · unfold dg wn dblB
            cases h1 : w.getD k false <;> cases h2 : w.getD j false <;> rw [h1] at i1 <;> rw [h2] at i2
            · simp only [it_l, it_t, rs_cons, rs_nil, r_asg, r_asg2, r_par2, r_aug, r_own, r_ownC, r_app, r_setP, r_ifs, r_for, r_fgt, r_ret, r_retD, r_retO, r_mv, r_ex, r_brk, r_cont, r_pass, x_v, x_fz, x_int, x_str, x_bl, x_non, x_neg, x_bin, x_cmp, x_chain, x_bop, x_not, x_ite, x_ix, x_sl, xo_no, xo_so, x_tup, x_lst, x_call, x_blt, x_isi, x_mth, x_ixP, x_lenP, x_spc, x_srtK, x_inP, t_inP, r_ownE, r_rem, r_ext, r_augP, r_parL, xs_nil, xs_cons, t_cmp, t_v, t_not, t_bop, t_ite, t_chain, t_isi, t_call, t_gq, t_bl, t_ix, t_bin, t_blt, i_of, n_range1, n_range2, i_zip, i_enum, i_enumz, xc_no, xc_so, fl_nil, fl_cons, bt_n, bt_2, bt_3, wipeE, keepS, backE, ok_bind, ofO_some, datO, List.getElem?_cons_zero, List.getElem?_cons_succ, List.set_cons_zero, List.set_cons_succ, List.map_cons, List.map_nil, dv_add, dv_sub, dv_mul, dv_fdiv, dv_mod, dv_pow, a_int, s_int, d_int, c_le, c_lt, c_gt, c_ge, c_eq, c_ne, e_int, tr_bool, tr_int, tr_none, s_bool, b_bool, b_abs, ip_int, ip_sub, if_true, if_false, eq_self, Bool.not_true, Bool.not_false, Bool.false_eq_true, Bool.true_eq_false, le_0, le_1, le_2, le_3, le_4, ic_lst, endE, Option.map_some, Option.bind_some, i1, i2]; simp
            · simp only [it_l, it_t, rs_cons, rs_nil, r_asg, r_asg2, r_par2, r_aug, r_own, r_ownC, r_app, r_setP, r_ifs, r_for, r_fgt, r_ret, r_retD, r_retO, r_mv, r_ex, r_brk, r_cont, r_pass, x_v, x_fz, x_int, x_str, x_bl, x_non, x_neg, x_bin, x_cmp, x_chain, x_bop, x_not, x_ite, x_ix, x_sl, xo_no, xo_so, x_tup, x_lst, x_call, x_blt, x_isi, x_mth, x_ixP, x_lenP, x_spc, x_srtK, x_inP, t_inP, r_ownE, r_rem, r_ext, r_augP, r_parL, xs_nil, xs_cons, t_cmp, t_v, t_not, t_bop, t_ite, t_chain, t_isi, t_call, t_gq, t_bl, t_ix, t_bin, t_blt, i_of, n_range1, n_range2, i_zip, i_enum, i_enumz, xc_no, xc_so, fl_nil, fl_cons, bt_n, bt_2, bt_3, wipeE, keepS, backE, ok_bind, ofO_some, datO, List.getElem?_cons_zero, List.getElem?_cons_succ, List.set_cons_zero, List.set_cons_succ, List.map_cons, List.map_nil, dv_add, dv_sub, dv_mul, dv_fdiv, dv_mod, dv_pow, a_int, s_int, d_int, c_le, c_lt, c_gt, c_ge, c_eq, c_ne, e_int, tr_bool, tr_int, tr_none, s_bool, b_bool, b_abs, ip_int, ip_sub, if_true, if_false, eq_self, Bool.not_true, Bool.not_false, Bool.false_eq_true, Bool.true_eq_false, le_0, le_1, le_2, le_3, le_4, ic_lst, endE, Option.map_some, Option.bind_some, i1, i2]; simp
            · simp only [it_l, it_t, rs_cons, rs_nil, r_asg, r_asg2, r_par2, r_aug, r_own, r_ownC, r_app, r_setP, r_ifs, r_for, r_fgt, r_ret, r_retD, r_retO, r_mv, r_ex, r_brk, r_cont, r_pass, x_v, x_fz, x_int, x_str, x_bl, x_non, x_neg, x_bin, x_cmp, x_chain, x_bop, x_not, x_ite, x_ix, x_sl, xo_no, xo_so, x_tup, x_lst, x_call, x_blt, x_isi, x_mth, x_ixP, x_lenP, x_spc, x_srtK, x_inP, t_inP, r_ownE, r_rem, r_ext, r_augP, r_parL, xs_nil, xs_cons, t_cmp, t_v, t_not, t_bop, t_ite, t_chain, t_isi, t_call, t_gq, t_bl, t_ix, t_bin, t_blt, i_of, n_range1, n_range2, i_zip, i_enum, i_enumz, xc_no, xc_so, fl_nil, fl_cons, bt_n, bt_2, bt_3, wipeE, keepS, backE, ok_bind, ofO_some, datO, List.getElem?_cons_zero, List.getElem?_cons_succ, List.set_cons_zero, List.set_cons_succ, List.map_cons, List.map_nil, dv_add, dv_sub, dv_mul, dv_fdiv, dv_mod, dv_pow, a_int, s_int, d_int, c_le, c_lt, c_gt, c_ge, c_eq, c_ne, e_int, tr_bool, tr_int, tr_none, s_bool, b_bool, b_abs, ip_int, ip_sub, if_true, if_false, eq_self, Bool.not_true, Bool.not_false, Bool.false_eq_true, Bool.true_eq_false, le_0, le_1, le_2, le_3, le_4, ic_lst, endE, Option.map_some, Option.bind_some, i1, i2]; simp
            · rw [Rat.mul_comm (o.getD j 0)]
              simp only [it_l, it_t, rs_cons, rs_nil, r_asg, r_asg2, r_par2, r_aug, r_own, r_ownC, r_app, r_setP, r_ifs, r_for, r_fgt, r_ret, r_retD, r_retO, r_mv, r_ex, r_brk, r_cont, r_pass, x_v, x_fz, x_int, x_str, x_bl, x_non, x_neg, x_bin, x_cmp, x_chain, x_bop, x_not, x_ite, x_ix, x_sl, xo_no, xo_so, x_tup, x_lst, x_call, x_blt, x_isi, x_mth, x_ixP, x_lenP, x_spc, x_srtK, x_inP, t_inP, r_ownE, r_rem, r_ext, r_augP, r_parL, xs_nil, xs_cons, t_cmp, t_v, t_not, t_bop, t_ite, t_chain, t_isi, t_call, t_gq, t_bl, t_ix, t_bin, t_blt, i_of, n_range1, n_range2, i_zip, i_enum, i_enumz, xc_no, xc_so, fl_nil, fl_cons, bt_n, bt_2, bt_3, wipeE, keepS, backE, ok_bind, ofO_some, datO, List.getElem?_cons_zero, List.getElem?_cons_succ, List.set_cons_zero, List.set_cons_succ, List.map_cons, List.map_nil, dv_add, dv_sub, dv_mul, dv_fdiv, dv_mod, dv_pow, a_int, s_int, d_int, c_le, c_lt, c_gt, c_ge, c_eq, c_ne, e_int, tr_bool, tr_int, tr_none, s_bool, b_bool, b_abs, ip_int, ip_sub, if_true, if_false, eq_self, Bool.not_true, Bool.not_false, Bool.false_eq_true, Bool.true_eq_false, le_0, le_1, le_2, le_3, le_4, ic_lst, endE, Option.map_some, Option.bind_some, i1, i2, i3, i4, c1, c2]; simp
          · unfold dg
            split
            · exact sz_add g2 (sz_mul s2 s1)
            · exact sz_mono g2 (by omega))
      have li1 := li.1
      simp only [bt_n, ofO_some, ok_bind] at li1
      have r0 := rO_0 k (by omega)
      simp only [it_l, it_t, rs_cons, rs_nil, r_asg, r_asg2, r_par2, r_aug, r_own, r_ownC, r_app, r_setP, r_ifs, r_for, r_fgt, r_ret, r_retD, r_retO, r_mv, r_ex, r_brk, r_cont, r_pass, x_v, x_fz, x_int, x_str, x_bl, x_non, x_neg, x_bin, x_cmp, x_chain, x_bop, x_not, x_ite, x_ix, x_sl, xo_no, xo_so, x_tup, x_lst, x_call, x_blt, x_isi, x_mth, x_ixP, x_lenP, x_spc, x_srtK, x_inP, t_inP, r_ownE, r_rem, r_ext, r_augP, r_parL, xs_nil, xs_cons, t_cmp, t_v, t_not, t_bop, t_ite, t_chain, t_isi, t_call, t_gq, t_bl, t_ix, t_bin, t_blt, i_of, n_range1, n_range2, i_zip, i_enum, i_enumz, xc_no, xc_so, fl_nil, fl_cons, bt_n, bt_2, bt_3, wipeE, keepS, backE, ok_bind, ofO_some, datO, List.getElem?_cons_zero, List.getElem?_cons_succ, List.set_cons_zero, List.set_cons_succ, List.map_cons, List.map_nil, dv_add, dv_sub, dv_mul, dv_fdiv, dv_mod, dv_pow, a_int, s_int, d_int, c_le, c_lt, c_gt, c_ge, c_eq, c_ne, e_int, tr_bool, tr_int, tr_none, s_bool, b_bool, b_abs, ip_int, ip_sub, if_true, if_false, eq_self, Bool.not_true, Bool.not_false, Bool.false_eq_true, Bool.true_eq_false, le_0, le_1, le_2, le_3, le_4, ic_lst, endE, Option.map_some, Option.bind_some, r0, li1])
  have lp1 := lp.1
  rw [dgs_fold] at lp1
  unfold dblB at lp1
  simp only [it_l, it_t, rs_cons, rs_nil, r_asg, r_asg2, r_par2, r_aug, r_own, r_ownC, r_app, r_setP, r_ifs, r_for, r_fgt, r_ret, r_retD, r_retO, r_mv, r_ex, r_brk, r_cont, r_pass, x_v, x_fz, x_int, x_str, x_bl, x_non, x_neg, x_bin, x_cmp, x_chain, x_bop, x_not, x_ite, x_ix, x_sl, xo_no, xo_so, x_tup, x_lst, x_call, x_blt, x_isi, x_mth, x_ixP, x_lenP, x_spc, x_srtK, x_inP, t_inP, r_ownE, r_rem, r_ext, r_augP, r_parL, xs_nil, xs_cons, t_cmp, t_v, t_not, t_bop, t_ite, t_chain, t_isi, t_call, t_gq, t_bl, t_ix, t_bin, t_blt, i_of, n_range1, n_range2, i_zip, i_enum, i_enumz, xc_no, xc_so, fl_nil, fl_cons, bt_n, bt_2, bt_3, wipeE, keepS, backE, ok_bind, ofO_some, datO, List.getElem?_cons_zero, List.getElem?_cons_succ, List.set_cons_zero, List.set_cons_succ, List.map_cons, List.map_nil, dv_add, dv_sub, dv_mul, dv_fdiv, dv_mod, dv_pow, a_int, s_int, d_int, c_le, c_lt, c_gt, c_ge, c_eq, c_ne, e_int, tr_bool, tr_int, tr_none, s_bool, b_bool, b_abs, ip_int, ip_sub, if_true, if_false, eq_self, Bool.not_true, Bool.not_false, Bool.false_eq_true, Bool.true_eq_false, le_0, le_1, le_2, le_3, le_4, ic_lst, endE, Option.map_some, Option.bind_some] at lp1
  have r0 := rO_0 m (by omega)
  have ll : bltD .len [frt o] = some (.int (m : Nat)) := by rw [len_frt, lo]
  unfold b_all_doubles
  simp only [it_l, it_t, rs_cons, rs_nil, r_asg, r_asg2, r_par2, r_aug, r_own, r_ownC, r_app, r_setP, r_ifs, r_for, r_fgt, r_ret, r_retD, r_retO, r_mv, r_ex, r_brk, r_cont, r_pass, x_v, x_fz, x_int, x_str, x_bl, x_non, x_neg, x_bin, x_cmp, x_chain, x_bop, x_not, x_ite, x_ix, x_sl, xo_no, xo_so, x_tup, x_lst, x_call, x_blt, x_isi, x_mth, x_ixP, x_lenP, x_spc, x_srtK, x_inP, t_inP, r_ownE, r_rem, r_ext, r_augP, r_parL, xs_nil, xs_cons, t_cmp, t_v, t_not, t_bop, t_ite, t_chain, t_isi, t_call, t_gq, t_bl, t_ix, t_bin, t_blt, i_of, n_range1, n_range2, i_zip, i_enum, i_enumz, xc_no, xc_so, fl_nil, fl_cons, bt_n, bt_2, bt_3, wipeE, keepS, backE, ok_bind, ofO_some, datO, List.getElem?_cons_zero, List.getElem?_cons_succ, List.set_cons_zero, List.set_cons_succ, List.map_cons, List.map_nil, dv_add, dv_sub, dv_mul, dv_fdiv, dv_mod, dv_pow, a_int, s_int, d_int, c_le, c_lt, c_gt, c_ge, c_eq, c_ne, e_int, tr_bool, tr_int, tr_none, s_bool, b_bool, b_abs, ip_int, ip_sub, if_true, if_false, eq_self, Bool.not_true, Bool.not_false, Bool.false_eq_true, Bool.true_eq_false, le_0, le_1, le_2, le_3, le_4, ic_lst, endE, Option.map_some, Option.bind_some, fr_0, ll, r0, lp1]
  rfl
/-! ### each way -/
def ew (o p h : Rat) (a b : Bool) : Rat :=
  (if b then (if a then 0 + h * o else 0) + h * (1 + (o - 1) * p) else if a then 0 + h * o else 0)
theorem w_each (n : Nat) {o p s : Rat} (ho : sz 6 o) (hp : sz 4 p) (hs : sz 8 s) (a b : Bool) : callF P (n + 4) 21 [.d (fr o), .d (fr p), .d (fr s), .d (.bool a), .d (.bool b)] = .ok (.d (fr (ew o p (s / 2) a b)), none) := by
  rw [call_eq (F := ⟨"each_way", 5, ["odds", "part", "stake", "won", "placed", "half", "found"], false, none, b_each_way⟩) rfl ⟨rfl, rfl⟩]
  show (runs P.C P.sub (callF P (n + 3)) b_each_way [.d (fr o), .d (fr p), .d (fr s), .d (.bool a), .d (.bool b), .u, .u]).bind _ = _
  have s2 : sz 2 2 := ⟨by decide, by decide⟩
  have s0 : sz 1 0 := ⟨by decide, by decide⟩
  have n2 : (2 : Rat) ≠ 0 := by decide
  have sh : sz 10 (s / 2) := sz_div hs s2 n2
  have c1 : callF P (n + 3) 5 [.d (fr s), .d (fr 2)] = _ := overP n hs s2 (by omega) n2
  have c2 : callF P (n + 3) 4 [.d (fr (s / 2)), .d (fr o)] = _ := timesP n sh ho (by omega)
  have c3 : callF P (n + 3) 2 [.d (fr 0), .d (fr (s / 2 * o))] = _ := plusP n s0 (sz_mul sh ho) (by omega)
  have c4 : callF P (n + 3) 3 [.d (fr o), .d (fr 1)] = _ := minusP n ho sz1 (by omega)
  have e4 : sz 8 (o - 1) := sz_sub ho sz1
  have c5 : callF P (n + 3) 4 [.d (fr (o - 1)), .d (fr p)] = _ := timesP n e4 hp (by omega)
  have e5 : sz 12 ((o - 1) * p) := sz_mul e4 hp
  have c6 : callF P (n + 3) 2 [.d (fr 1), .d (fr ((o - 1) * p))] = _ := plusP n sz1 e5 (by omega)
  have e6 : sz 14 (1 + (o - 1) * p) := sz_add sz1 e5
  have c7 : callF P (n + 3) 4 [.d (fr (s / 2)), .d (fr (1 + (o - 1) * p))] = _ := timesP n sh e6 (by omega)
  have e7 : sz 24 (s / 2 * (1 + (o - 1) * p)) := sz_mul sh e6
  have c8 : callF P (n + 3) 2 [.d (fr 0), .d (fr (s / 2 * (1 + (o - 1) * p)))] = _ := plusP n s0 e7 (by omega)
  have c9 : callF P (n + 3) 2 [.d (fr (0 + s / 2 * o)), .d (fr (s / 2 * (1 + (o - 1) * p)))] = _ := plusP n (sz_add s0 (sz_mul sh ho)) e7 (by omega)
  unfold ew b_each_way
  cases a <;> cases b
  · simp only [it_l, it_t, rs_cons, rs_nil, r_asg, r_asg2, r_par2, r_aug, r_own, r_ownC, r_app, r_setP, r_ifs, r_for, r_fgt, r_ret, r_retD, r_retO, r_mv, r_ex, r_brk, r_cont, r_pass, x_v, x_fz, x_int, x_str, x_bl, x_non, x_neg, x_bin, x_cmp, x_chain, x_bop, x_not, x_ite, x_ix, x_sl, xo_no, xo_so, x_tup, x_lst, x_call, x_blt, x_isi, x_mth, x_ixP, x_lenP, x_spc, x_srtK, x_inP, t_inP, r_ownE, r_rem, r_ext, r_augP, r_parL, xs_nil, xs_cons, t_cmp, t_v, t_not, t_bop, t_ite, t_chain, t_isi, t_call, t_gq, t_bl, t_ix, t_bin, t_blt, i_of, n_range1, n_range2, i_zip, i_enum, i_enumz, xc_no, xc_so, fl_nil, fl_cons, bt_n, bt_2, bt_3, wipeE, keepS, backE, ok_bind, ofO_some, datO, List.getElem?_cons_zero, List.getElem?_cons_succ, List.set_cons_zero, List.set_cons_succ, List.map_cons, List.map_nil, dv_add, dv_sub, dv_mul, dv_fdiv, dv_mod, dv_pow, a_int, s_int, d_int, c_le, c_lt, c_gt, c_ge, c_eq, c_ne, e_int, tr_bool, tr_int, tr_none, s_bool, b_bool, b_abs, ip_int, ip_sub, if_true, if_false, eq_self, Bool.not_true, Bool.not_false, Bool.false_eq_true, Bool.true_eq_false, le_0, le_1, le_2, le_3, le_4, ic_lst, endE, Option.map_some, Option.bind_some, fr_2, fr_0, fr_1, c1, tr_bl]
  · simp only [it_l, it_t, rs_cons, rs_nil, r_asg, r_asg2, r_par2, r_aug, r_own, r_ownC, r_app, r_setP, r_ifs, r_for, r_fgt, r_ret, r_retD, r_retO, r_mv, r_ex, r_brk, r_cont, r_pass, x_v, x_fz, x_int, x_str, x_bl, x_non, x_neg, x_bin, x_cmp, x_chain, x_bop, x_not, x_ite, x_ix, x_sl, xo_no, xo_so, x_tup, x_lst, x_call, x_blt, x_isi, x_mth, x_ixP, x_lenP, x_spc, x_srtK, x_inP, t_inP, r_ownE, r_rem, r_ext, r_augP, r_parL, xs_nil, xs_cons, t_cmp, t_v, t_not, t_bop, t_ite, t_chain, t_isi, t_call, t_gq, t_bl, t_ix, t_bin, t_blt, i_of, n_range1, n_range2, i_zip, i_enum, i_enumz, xc_no, xc_so, fl_nil, fl_cons, bt_n, bt_2, bt_3, wipeE, keepS, backE, ok_bind, ofO_some, datO, List.getElem?_cons_zero, List.getElem?_cons_succ, List.set_cons_zero, List.set_cons_succ, List.map_cons, List.map_nil, dv_add, dv_sub, dv_mul, dv_fdiv, dv_mod, dv_pow, a_int, s_int, d_int, c_le, c_lt, c_gt, c_ge, c_eq, c_ne, e_int, tr_bool, tr_int, tr_none, s_bool, b_bool, b_abs, ip_int, ip_sub, if_true, if_false, eq_self, Bool.not_true, Bool.not_false, Bool.false_eq_true, Bool.true_eq_false, le_0, le_1, le_2, le_3, le_4, ic_lst, endE, Option.map_some, Option.bind_some, fr_2, fr_0, fr_1, c1, tr_bl, c4, c5, c6, c7, c8]
  · simp only [it_l, it_t, rs_cons, rs_nil, r_asg, r_asg2, r_par2, r_aug, r_own, r_ownC, r_app, r_setP, r_ifs, r_for, r_fgt, r_ret, r_retD, r_retO, r_mv, r_ex, r_brk, r_cont, r_pass, x_v, x_fz, x_int, x_str, x_bl, x_non, x_neg, x_bin, x_cmp, x_chain, x_bop, x_not, x_ite, x_ix, x_sl, xo_no, xo_so, x_tup, x_lst, x_call, x_blt, x_isi, x_mth, x_ixP, x_lenP, x_spc, x_srtK, x_inP, t_inP, r_ownE, r_rem, r_ext, r_augP, r_parL, xs_nil, xs_cons, t_cmp, t_v, t_not, t_bop, t_ite, t_chain, t_isi, t_call, t_gq, t_bl, t_ix, t_bin, t_blt, i_of, n_range1, n_range2, i_zip, i_enum, i_enumz, xc_no, xc_so, fl_nil, fl_cons, bt_n, bt_2, bt_3, wipeE, keepS, backE, ok_bind, ofO_some, datO, List.getElem?_cons_zero, List.getElem?_cons_succ, List.set_cons_zero, List.set_cons_succ, List.map_cons, List.map_nil, dv_add, dv_sub, dv_mul, dv_fdiv, dv_mod, dv_pow, a_int, s_int, d_int, c_le, c_lt, c_gt, c_ge, c_eq, c_ne, e_int, tr_bool, tr_int, tr_none, s_bool, b_bool, b_abs, ip_int, ip_sub, if_true, if_false, eq_self, Bool.not_true, Bool.not_false, Bool.false_eq_true, Bool.true_eq_false, le_0, le_1, le_2, le_3, le_4, ic_lst, endE, Option.map_some, Option.bind_some, fr_2, fr_0, fr_1, c1, tr_bl, c2, c3]
  · simp only [it_l, it_t, rs_cons, rs_nil, r_asg, r_asg2, r_par2, r_aug, r_own, r_ownC, r_app, r_setP, r_ifs, r_for, r_fgt, r_ret, r_retD, r_retO, r_mv, r_ex, r_brk, r_cont, r_pass, x_v, x_fz, x_int, x_str, x_bl, x_non, x_neg, x_bin, x_cmp, x_chain, x_bop, x_not, x_ite, x_ix, x_sl, xo_no, xo_so, x_tup, x_lst, x_call, x_blt, x_isi, x_mth, x_ixP, x_lenP, x_spc, x_srtK, x_inP, t_inP, r_ownE, r_rem, r_ext, r_augP, r_parL, xs_nil, xs_cons, t_cmp, t_v, t_not, t_bop, t_ite, t_chain, t_isi, t_call, t_gq, t_bl, t_ix, t_bin, t_blt, i_of, n_range1, n_range2, i_zip, i_enum, i_enumz, xc_no, xc_so, fl_nil, fl_cons, bt_n, bt_2, bt_3, wipeE, keepS, backE, ok_bind, ofO_some, datO, List.getElem?_cons_zero, List.getElem?_cons_succ, List.set_cons_zero, List.set_cons_succ, List.map_cons, List.map_nil, dv_add, dv_sub, dv_mul, dv_fdiv, dv_mod, dv_pow, a_int, s_int, d_int, c_le, c_lt, c_gt, c_ge, c_eq, c_ne, e_int, tr_bool, tr_int, tr_none, s_bool, b_bool, b_abs, ip_int, ip_sub, if_true, if_false, eq_self, Bool.not_true, Bool.not_false, Bool.false_eq_true, Bool.true_eq_false, le_0, le_1, le_2, le_3, le_4, ic_lst, endE, Option.map_some, Option.bind_some, fr_2, fr_0, fr_1, c1, tr_bl, c2, c3, c4, c5, c6, c7, c9]
/-! ### odds are odds -/
def isoB : List Cm := [.ifs (.bop false (.not (.isi (.v 1) .tuple)) (.bop false (.cmp .ne (.blt .len [(.v 1)]) (.int 2)) (.not (.gq true (.isi (.v 2) .int) (.n 2) (.of (.v 1)) .no [2])))) [.ret (.bl false)] [], .ifs (.bop false (.cmp .le (.ix (.v 1) (.int 1)) (.int 0)) (.bop false (.cmp .le (.ix (.v 1) (.int 0)) (.ix (.v 1) (.int 1))) (.cmp .ne (.call 1 [(.ix (.v 1) (.int 0)), (.ix (.v 1) (.int 1))]) (.v 1)))) [.ret (.bl false)] [], .fgt [1]]
theorem w_isodds (n : Nat) {o : List Rat} (h : ∀ q ∈ o, od q) (h2 : 2 ≤ o.length) : callF P (n + 3) 8 [.d (frt o)] = .ok (.d (.bool true), none) := by
  rw [call_eq (F := ⟨"is_odds", 1, ["value", "one", "part"], false, some 0, b_is_odds⟩) rfl ⟨rfl, rfl⟩]
  show (runs P.C P.sub (callF P (n + 2)) b_is_odds [.d (frt o), .u, .u]).bind _ = _
  have lp := forL_const (b := fun x σ => (ofO (bindT (.n 1) x σ)).bind fun σ1 => runs P.C P.sub (callF P (n + 2)) isoB σ1) (em := fr) (σ := [.d (frt o), .u, .u]) o (fun q hq => by
    have hq := h q hq
    have q1 : 1 < q := hq.2
    have lt := (Rat.lt_iff 1 q).mp q1
    rw [show (1 : Rat).num = 1 from rfl, show (1 : Rat).den = 1 from rfl] at lt
    simp only [Int.natCast_one, Int.mul_one, Int.one_mul] at lt
    have dp := q.den_pos
    have c := fracP n q.num (q.den : Nat) (den_ne q) (Nat.lt_of_lt_of_le (sz_den hq.1) (Nat.pow_le_pow_right (by decide) (by omega)))
    rw [← rat_nd] at c
    have g := gq_ok (C := P.C) (fn := callF P (n + 2)) (σ := [.d (frt o), .d (fr q), .u]) (σ1 := [.d (frt o), .d (fr q), .u]) (k := true) (elt := .isi (.v 2) .int) (tg := .n 2) (it := .of (.v 1)) (own := [2]) (l := [q.num, (q.den : Int)]) (em := .int) (p := fun _ => true) (by simp only [it_l, it_t, rs_cons, rs_nil, r_asg, r_asg2, r_par2, r_aug, r_own, r_ownC, r_app, r_setP, r_ifs, r_for, r_fgt, r_ret, r_retD, r_retO, r_mv, r_ex, r_brk, r_cont, r_pass, x_v, x_fz, x_int, x_str, x_bl, x_non, x_neg, x_bin, x_cmp, x_chain, x_bop, x_not, x_ite, x_ix, x_sl, xo_no, xo_so, x_tup, x_lst, x_call, x_blt, x_isi, x_mth, x_ixP, x_lenP, x_spc, x_srtK, x_inP, t_inP, r_ownE, r_rem, r_ext, r_augP, r_parL, xs_nil, xs_cons, t_cmp, t_v, t_not, t_bop, t_ite, t_chain, t_isi, t_call, t_gq, t_bl, t_ix, t_bin, t_blt, i_of, n_range1, n_range2, i_zip, i_enum, i_enumz, xc_no, xc_so, fl_nil, fl_cons, bt_n, bt_2, bt_3, wipeE, keepS, backE, ok_bind, ofO_some, datO, List.getElem?_cons_zero, List.getElem?_cons_succ, List.set_cons_zero, List.set_cons_succ, List.map_cons, List.map_nil, dv_add, dv_sub, dv_mul, dv_fdiv, dv_mod, dv_pow, a_int, s_int, d_int, c_le, c_lt, c_gt, c_ge, c_eq, c_ne, e_int, tr_bool, tr_int, tr_none, s_bool, b_bool, b_abs, ip_int, ip_sub, if_true, if_false, eq_self, Bool.not_true, Bool.not_false, Bool.false_eq_true, Bool.true_eq_false, le_0, le_1, le_2, le_3, le_4, ic_lst, endE, Option.map_some, Option.bind_some]; rfl) (fun a _ => by simp only [it_l, it_t, rs_cons, rs_nil, r_asg, r_asg2, r_par2, r_aug, r_own, r_ownC, r_app, r_setP, r_ifs, r_for, r_fgt, r_ret, r_retD, r_retO, r_mv, r_ex, r_brk, r_cont, r_pass, x_v, x_fz, x_int, x_str, x_bl, x_non, x_neg, x_bin, x_cmp, x_chain, x_bop, x_not, x_ite, x_ix, x_sl, xo_no, xo_so, x_tup, x_lst, x_call, x_blt, x_isi, x_mth, x_ixP, x_lenP, x_spc, x_srtK, x_inP, t_inP, r_ownE, r_rem, r_ext, r_augP, r_parL, xs_nil, xs_cons, t_cmp, t_v, t_not, t_bop, t_ite, t_chain, t_isi, t_call, t_gq, t_bl, t_ix, t_bin, t_blt, i_of, n_range1, n_range2, i_zip, i_enum, i_enumz, xc_no, xc_so, fl_nil, fl_cons, bt_n, bt_2, bt_3, wipeE, keepS, backE, ok_bind, ofO_some, datO, List.getElem?_cons_zero, List.getElem?_cons_succ, List.set_cons_zero, List.set_cons_succ, List.map_cons, List.map_nil, dv_add, dv_sub, dv_mul, dv_fdiv, dv_mod, dv_pow, a_int, s_int, d_int, c_le, c_lt, c_gt, c_ge, c_eq, c_ne, e_int, tr_bool, tr_int, tr_none, s_bool, b_bool, b_abs, ip_int, ip_sub, if_true, if_false, eq_self, Bool.not_true, Bool.not_false, Bool.false_eq_true, Bool.true_eq_false, le_0, le_1, le_2, le_3, le_4, ic_lst, endE, Option.map_some, Option.bind_some]; rfl)
    have e1 : isiD (fr q) .tuple = true := rfl
    have e2 : bltD .len [fr q] = some (.int 2) := rfl
    have e3 : ((q.den : Int) ≤ 0) = False := eq_false (by omega)
    have e4 : (q.num ≤ (q.den : Int)) = False := eq_false (by omega)
    have e5 : ((2 : Int) == 2) = true := rfl
    simp only [if_true, List.all_cons, List.all_nil, Bool.and_true] at g
    unfold isoB
    simp only [it_l, it_t, rs_cons, rs_nil, r_asg, r_asg2, r_par2, r_aug, r_own, r_ownC, r_app, r_setP, r_ifs, r_for, r_fgt, r_ret, r_retD, r_retO, r_mv, r_ex, r_brk, r_cont, r_pass, x_v, x_fz, x_int, x_str, x_bl, x_non, x_neg, x_bin, x_cmp, x_chain, x_bop, x_not, x_ite, x_ix, x_sl, xo_no, xo_so, x_tup, x_lst, x_call, x_blt, x_isi, x_mth, x_ixP, x_lenP, x_spc, x_srtK, x_inP, t_inP, r_ownE, r_rem, r_ext, r_augP, r_parL, xs_nil, xs_cons, t_cmp, t_v, t_not, t_bop, t_ite, t_chain, t_isi, t_call, t_gq, t_bl, t_ix, t_bin, t_blt, i_of, n_range1, n_range2, i_zip, i_enum, i_enumz, xc_no, xc_so, fl_nil, fl_cons, bt_n, bt_2, bt_3, wipeE, keepS, backE, ok_bind, ofO_some, datO, List.getElem?_cons_zero, List.getElem?_cons_succ, List.set_cons_zero, List.set_cons_succ, List.map_cons, List.map_nil, dv_add, dv_sub, dv_mul, dv_fdiv, dv_mod, dv_pow, a_int, s_int, d_int, c_le, c_lt, c_gt, c_ge, c_eq, c_ne, e_int, tr_bool, tr_int, tr_none, s_bool, b_bool, b_abs, ip_int, ip_sub, if_true, if_false, eq_self, Bool.not_true, Bool.not_false, Bool.false_eq_true, Bool.true_eq_false, le_0, le_1, le_2, le_3, le_4, ic_lst, endE, Option.map_some, Option.bind_some, e1, e2, g, ix_fr0, ix_fr1, c_le, e3, e4, decide_false, c, eq_fr, decide_true, e5])
  simp only [bt_n, ofO_some, ok_bind] at lp
  unfold isoB at lp
  have e1 : isiD (frt o) .tuple = true := rfl
  have e2 : ((o.length : Int) < 2) = False := eq_false (by omega)
  simp only [it_l, it_t, rs_cons, rs_nil, r_asg, r_asg2, r_par2, r_aug, r_own, r_ownC, r_app, r_setP, r_ifs, r_for, r_fgt, r_ret, r_retD, r_retO, r_mv, r_ex, r_brk, r_cont, r_pass, x_v, x_fz, x_int, x_str, x_bl, x_non, x_neg, x_bin, x_cmp, x_chain, x_bop, x_not, x_ite, x_ix, x_sl, xo_no, xo_so, x_tup, x_lst, x_call, x_blt, x_isi, x_mth, x_ixP, x_lenP, x_spc, x_srtK, x_inP, t_inP, r_ownE, r_rem, r_ext, r_augP, r_parL, xs_nil, xs_cons, t_cmp, t_v, t_not, t_bop, t_ite, t_chain, t_isi, t_call, t_gq, t_bl, t_ix, t_bin, t_blt, i_of, n_range1, n_range2, i_zip, i_enum, i_enumz, xc_no, xc_so, fl_nil, fl_cons, bt_n, bt_2, bt_3, wipeE, keepS, backE, ok_bind, ofO_some, datO, List.getElem?_cons_zero, List.getElem?_cons_succ, List.set_cons_zero, List.set_cons_succ, List.map_cons, List.map_nil, dv_add, dv_sub, dv_mul, dv_fdiv, dv_mod, dv_pow, a_int, s_int, d_int, c_le, c_lt, c_gt, c_ge, c_eq, c_ne, e_int, tr_bool, tr_int, tr_none, s_bool, b_bool, b_abs, ip_int, ip_sub, if_true, if_false, eq_self, Bool.not_true, Bool.not_false, Bool.false_eq_true, Bool.true_eq_false, le_0, le_1, le_2, le_3, le_4, ic_lst, endE, Option.map_some, Option.bind_some] at lp
  unfold b_is_odds
  simp only [it_l, it_t, rs_cons, rs_nil, r_asg, r_asg2, r_par2, r_aug, r_own, r_ownC, r_app, r_setP, r_ifs, r_for, r_fgt, r_ret, r_retD, r_retO, r_mv, r_ex, r_brk, r_cont, r_pass, x_v, x_fz, x_int, x_str, x_bl, x_non, x_neg, x_bin, x_cmp, x_chain, x_bop, x_not, x_ite, x_ix, x_sl, xo_no, xo_so, x_tup, x_lst, x_call, x_blt, x_isi, x_mth, x_ixP, x_lenP, x_spc, x_srtK, x_inP, t_inP, r_ownE, r_rem, r_ext, r_augP, r_parL, xs_nil, xs_cons, t_cmp, t_v, t_not, t_bop, t_ite, t_chain, t_isi, t_call, t_gq, t_bl, t_ix, t_bin, t_blt, i_of, n_range1, n_range2, i_zip, i_enum, i_enumz, xc_no, xc_so, fl_nil, fl_cons, bt_n, bt_2, bt_3, wipeE, keepS, backE, ok_bind, ofO_some, datO, List.getElem?_cons_zero, List.getElem?_cons_succ, List.set_cons_zero, List.set_cons_succ, List.map_cons, List.map_nil, dv_add, dv_sub, dv_mul, dv_fdiv, dv_mod, dv_pow, a_int, s_int, d_int, c_le, c_lt, c_gt, c_ge, c_eq, c_ne, e_int, tr_bool, tr_int, tr_none, s_bool, b_bool, b_abs, ip_int, ip_sub, if_true, if_false, eq_self, Bool.not_true, Bool.not_false, Bool.false_eq_true, Bool.true_eq_false, le_0, le_1, le_2, le_3, le_4, ic_lst, endE, Option.map_some, Option.bind_some, e1, len_frt, e2, decide_false, it_frt, lp]
end K28
namespace K28
open PySem N
def t0 : Cm := .ownC 1 23 [(.v 0)]
def t1 : Cm := .asg (.n 2) (.bin .add (.int 2) (.callO 24 1 [(.int 3)]))
def t2 : Cm := .own 3 (.lst [])
def t3 : Cm := .fgt [4, 19, 20, 22]
def t4 : Cm := .for (.n 4) (.range1 (.bin .add (.int 1) (.callO 24 1 [(.int 3)]))) [.own 19 (.lst []), .fgt [20, 22], .for (.n 20) (.range1 (.v 2)) [.asg (.n 22) (.bin .add (.int 1) (.callO 24 1 [(.int 8)])), .app 19 (.call 26 [(.bin .add (.bin .add (.v 22) (.int 1)) (.callO 24 1 [(.int 40)])), (.v 22)]), .fgt [20, 22]], .app 3 (.blt .tuple [(.fz 19)]), .fgt [4, 19, 20, 22]]
def t5 : Cm := .asg (.n 5) (.ixP 3 (.int 0))
def t6 : Cm := .asg (.n 6) (.call 29 [(.lc (.call 30 [(.v 18)]) (.n 18) (.of (.v 5)) .no [18])])
def t7 : Cm := .asg (.n 7) (.lc (.call 28 [(.call 30 [(.v 18)]), (.call 30 [(.v 6)])]) (.n 18) (.of (.v 5)) .no [18])
def t8 : Cm := .asg (.n 8) (.call 10 [(.v 5)])
def t9 : Cm := .ifs (.bop false (.cmp .isnot (.call 8 [(.v 5)]) (.bl true)) (.bop false (.cmp .ne (.call 9 [(.v 5)]) (.v 6)) (.bop false (.not (.isi (.v 8) .list)) (.bop false (.cmp .ne (.v 8) (.v 7)) (.cmp .ne (.call 29 [(.v 7)]) (.tup [(.int 1), (.int 1)])))))) [.ret (.bl false)] []
def t10 : Cm := .ifs (.bop false (.cmp .ne (.call 11 [(.v 7)]) (.blt .tuple [(.lc (.call 30 [(.v 18)]) (.n 18) (.of (.v 7)) .no [18])])) (.cmp .ne (.call 12 [(.v 5)]) (.call 27 [(.tup [(.int 1), (.int 1)]), (.tup [(.neg (.ix (.v 6) (.int 1))), (.ix (.v 6) (.int 0))])]))) [.ret (.bl false)] []
def t11 : Cm := .own 9 (.lst [])
def t12 : Cm := .fgt [4, 10, 21]
def t13 : Cm := .for (.n 4) (.range1 (.v 2)) [.asg (.n 21) (.lc (.ix (.v 25) (.v 4)) (.n 25) (.of (.fz 3)) .no [25]), .asg (.n 10) (.ix (.lc (.v 20) (.n 20) (.range1 (.blt .len [(.v 21)])) (.so (.not (.blt .any [(.lc (.call 31 [(.ix (.v 21) (.v 20)), (.v 27)]) (.n 27) (.of (.v 21)) .no [27])]))) [20]) (.int 0)), .app 9 (.tup [(.ix (.v 21) (.v 10)), (.v 10)]), .fgt [4, 10, 21]]
def t14 : Cm := .ifs (.cmp .ne (.call 13 [(.fz 3)]) (.fz 9)) [.ret (.bl false)] []
def t15 : Cm := .asg (.n 10) (.lc (.v 18) (.t [(.n 18), (.n 26)]) (.of (.fz 9)) .no [18, 26])
def t16 : Cm := .asg (.n 11) (.call 29 [(.lc (.call 30 [(.v 18)]) (.n 18) (.of (.v 10)) .no [18])])
def t17 : Cm := .asg (.n 12) (.bin .add (.int 1) (.callO 24 1 [(.int 100)]))
def t18 : Cm := .asg (.n 8) (.call 14 [(.fz 3), (.v 12)])
def t19 : Cm := .ifs (.cmp .ne (.cmp .isnot (.v 8) .non) (.call 31 [(.v 11), (.tup [(.int 1), (.int 1)])])) [.ret (.bl false)] []
def t20 : Cm := .ifs (.cmp .isnot (.v 8) .non) [.asg (.t [(.n 23), (.n 24)]) (.v 8), .ifs (.bop false (.cmp .ne (.call 29 [(.v 23)]) (.tup [(.v 12), (.int 1)])) (.bop false (.blt .any [(.lc (.cmp .ne (.call 28 [(.ix (.v 10) (.v 4)), (.ix (.v 23) (.v 4))]) (.v 24)) (.n 4) (.range1 (.v 2)) .no [4])]) (.not (.call 31 [(.tup [(.v 12), (.int 1)]), (.v 24)])))) [.ret (.bl false)] []] []
def t21 : Cm := .fgt [23, 24]
def t22 : Cm := .asg (.n 13) (.lc (.call 26 [(.callO 24 1 [(.int 20)]), (.bin .add (.int 1) (.callO 24 1 [(.int 4)]))]) (.n 4) (.range1 (.v 2)) .no [4])
def t23 : Cm := .asg (.n 14) (.call 29 [(.v 13)])
def t24 : Cm := .asg (.n 15) (.lc (.call 27 [(.call 28 [(.ix (.v 5) (.v 4)), (.ix (.v 13) (.v 4))]), (.tup [(.neg (.ix (.v 14) (.int 0))), (.ix (.v 14) (.int 1))])]) (.n 4) (.range1 (.v 2)) .no [4])
def t25 : Cm := .asg (.n 16) (.ix (.lc (.v 4) (.n 4) (.range1 (.v 2)) (.so (.not (.blt .any [(.lc (.call 31 [(.v 27), (.ix (.v 15) (.v 4))]) (.n 27) (.of (.v 15)) .no [27])]))) [4]) (.int 0))
def t26 : Cm := .ifs (.cmp .ne (.call 15 [(.v 5), (.v 13)]) (.tup [(.ix (.v 15) (.v 16)), (.v 16)])) [.ret (.bl false)] []
def t27 : Cm := .asg (.n 17) (.tup [(.int 1), (.int 1)])
def t28 : Cm := .fgt [18]
def t29 : Cm := .for (.n 18) (.of (.v 5)) [.asg (.n 17) (.call 28 [(.v 17), (.v 18)]), .fgt [18]]
def t30 : Cm := .ifs (.bop false (.cmp .ne (.call 16 [(.v 5)]) (.v 17)) (.bop false (.cmp .ne (.call 16 [(.lst [])]) (.tup [(.int 1), (.int 1)])) (.cmp .ne (.call 17 [(.v 5), (.v 7)]) (.lc (.call 28 [(.ix (.v 5) (.v 4)), (.ix (.v 7) (.v 4))]) (.n 4) (.range1 (.v 2)) .no [4])))) [.ret (.bl false)] []
def t31 : Cm := .ifs (.bop false (.cmp .ne (.spc .lset (.call 17 [(.v 5), (.v 7)])) (.int 1)) (.cmp .ne (.ix (.call 17 [(.v 5), (.v 7)]) (.int 0)) (.call 30 [(.v 6)]))) [.ret (.bl false)] []
def t32 : Cm := .ret (.callO 32 1 [(.v 5), (.v 12)])
def i4 : List Cm := [.own 19 (.lst []), .fgt [20, 22], .for (.n 20) (.range1 (.v 2)) [.asg (.n 22) (.bin .add (.int 1) (.callO 24 1 [(.int 8)])), .app 19 (.call 26 [(.bin .add (.bin .add (.v 22) (.int 1)) (.callO 24 1 [(.int 40)])), (.v 22)]), .fgt [20, 22]], .app 3 (.blt .tuple [(.fz 19)]), .fgt [4, 19, 20, 22]]
def i20 : List Cm := [.asg (.n 22) (.bin .add (.int 1) (.callO 24 1 [(.int 8)])), .app 19 (.call 26 [(.bin .add (.bin .add (.v 22) (.int 1)) (.callO 24 1 [(.int 40)])), (.v 22)]), .fgt [20, 22]]
def i13 : List Cm := [.asg (.n 21) (.lc (.ix (.v 25) (.v 4)) (.n 25) (.of (.fz 3)) .no [25]), .asg (.n 10) (.ix (.lc (.v 20) (.n 20) (.range1 (.blt .len [(.v 21)])) (.so (.not (.blt .any [(.lc (.call 31 [(.ix (.v 21) (.v 20)), (.v 27)]) (.n 27) (.of (.v 21)) .no [27])]))) [20]) (.int 0)), .app 9 (.tup [(.ix (.v 21) (.v 10)), (.v 10)]), .fgt [4, 10, 21]]
theorem law_is : b_law = [t0, t1, t2, t3, t4, t5, t6, t7, t8, t9, t10, t11, t12, t13, t14, t15, t16, t17, t18, t19, t20, t21, t22, t23, t24, t25, t26, t27, t28, t29, t30, t31, t32] := rfl
section
variable {s0 s1 s2 s3 s5 s6 s7 s8 s9 s10 s11 s12 s13 s14 s15 s16 s17 : Slot}
theorem b_any {α : Type} (l : List α) (p : α → Bool) : bltD .any [.list (l.map fun x => .bool (p x))] = some (.bool (l.any p)) := by
  have e : ∀ l : List α, boolsO (l.map fun x => PyData.bool (p x)) = some (l.map p) := fun l => by
    induction l with
    | nil => rfl
    | cons a l ih => rw [List.map_cons, boolsO, ih]; rfl
  show ((boolsO (l.map fun x => PyData.bool (p x))).map fun bs => PyData.bool (bs.any id)) = _
  rw [e]
  show some (PyData.bool ((l.map p).any id)) = _
  rw [List.any_map]
  rfl
theorem p1 {row : List Int} (hr : row ≠ []) (hs : row.length < 1000000) (n : Nat) : run P.C P.sub (callF P 19) t1 [s0, .m false (boxM row n), s2, s3, .u, s5, s6, s7, s8, s9, s10, s11, s12, s13, s14, s15, s16, s17, .u, .u, .u, .u, .u, .u, .u, .u, .u, .u] = .ok (.nx, [s0, .m false (boxM row (n + 1)), .d (.int (2 + drawn row n 3)), s3, .u, s5, s6, s7, s8, s9, s10, s11, s12, s13, s14, s15, s16, s17, .u, .u, .u, .u, .u, .u, .u, .u, .u, .u]) := by
  have d : (sm P.C (callF P 19) (.callO 24 1 [(.int 3)])).v [s0, .m false (boxM row n), s2, s3, .u, s5, s6, s7, s8, s9, s10, s11, s12, s13, s14, s15, s16, s17, .u, .u, .u, .u, .u, .u, .u, .u, .u, .u] = _ := draw_v (C := P.C) (k := 18) (P := P) (f := 24) (j := 1) rfl hr hs (n := n) (m := 3) (by decide) rfl rfl rfl
  unfold t1
  simp only [it_l, it_t, rs_cons, rs_nil, r_asg, r_asg2, r_par2, r_aug, r_own, r_ownC, r_app, r_setP, r_ifs, r_for, r_fgt, r_ret, r_retD, r_retO, r_mv, r_ex, r_brk, r_cont, r_pass, x_v, x_fz, x_int, x_str, x_bl, x_non, x_neg, x_bin, x_cmp, x_chain, x_bop, x_not, x_ite, x_ix, x_sl, xo_no, xo_so, x_tup, x_lst, x_call, x_blt, x_isi, x_mth, x_ixP, x_lenP, x_spc, x_srtK, x_inP, t_inP, r_ownE, r_rem, r_ext, r_augP, r_parL, xs_nil, xs_cons, t_cmp, t_v, t_not, t_bop, t_ite, t_chain, t_isi, t_call, t_gq, t_bl, t_ix, t_bin, t_blt, i_of, n_range1, n_range2, i_zip, i_enum, i_enumz, xc_no, xc_so, fl_nil, fl_cons, bt_n, bt_2, bt_3, wipeE, keepS, backE, ok_bind, ofO_some, datO, List.getElem?_cons_zero, List.getElem?_cons_succ, List.set_cons_zero, List.set_cons_succ, List.map_cons, List.map_nil, dv_add, dv_sub, dv_mul, dv_fdiv, dv_mod, dv_pow, a_int, s_int, d_int, c_le, c_lt, c_gt, c_ge, c_eq, c_ne, e_int, tr_bool, tr_int, tr_none, s_bool, b_bool, b_abs, ip_int, ip_sub, if_true, if_false, eq_self, Bool.not_true, Bool.not_false, Bool.false_eq_true, Bool.true_eq_false, le_0, le_1, le_2, le_3, le_4, ic_lst, endE, Option.map_some, Option.bind_some, d]
theorem p2 : run P.C P.sub (callF P 19) t2 [s0, s1, s2, s3, .u, s5, s6, s7, s8, s9, s10, s11, s12, s13, s14, s15, s16, s17, .u, .u, .u, .u, .u, .u, .u, .u, .u, .u] = .ok (.nx, [s0, s1, s2, .m false (mL frt []), .u, s5, s6, s7, s8, s9, s10, s11, s12, s13, s14, s15, s16, s17, .u, .u, .u, .u, .u, .u, .u, .u, .u, .u]) := by
  unfold t2
  simp only [it_l, it_t, rs_cons, rs_nil, r_asg, r_asg2, r_par2, r_aug, r_own, r_ownC, r_app, r_setP, r_ifs, r_for, r_fgt, r_ret, r_retD, r_retO, r_mv, r_ex, r_brk, r_cont, r_pass, x_v, x_fz, x_int, x_str, x_bl, x_non, x_neg, x_bin, x_cmp, x_chain, x_bop, x_not, x_ite, x_ix, x_sl, xo_no, xo_so, x_tup, x_lst, x_call, x_blt, x_isi, x_mth, x_ixP, x_lenP, x_spc, x_srtK, x_inP, t_inP, r_ownE, r_rem, r_ext, r_augP, r_parL, xs_nil, xs_cons, t_cmp, t_v, t_not, t_bop, t_ite, t_chain, t_isi, t_call, t_gq, t_bl, t_ix, t_bin, t_blt, i_of, n_range1, n_range2, i_zip, i_enum, i_enumz, xc_no, xc_so, fl_nil, fl_cons, bt_n, bt_2, bt_3, wipeE, keepS, backE, ok_bind, ofO_some, datO, List.getElem?_cons_zero, List.getElem?_cons_succ, List.set_cons_zero, List.set_cons_succ, List.map_cons, List.map_nil, dv_add, dv_sub, dv_mul, dv_fdiv, dv_mod, dv_pow, a_int, s_int, d_int, c_le, c_lt, c_gt, c_ge, c_eq, c_ne, e_int, tr_bool, tr_int, tr_none, s_bool, b_bool, b_abs, ip_int, ip_sub, if_true, if_false, eq_self, Bool.not_true, Bool.not_false, Bool.false_eq_true, Bool.true_eq_false, le_0, le_1, le_2, le_3, le_4, ic_lst, endE, Option.map_some, Option.bind_some, mL_nil frt]
theorem p3 : run P.C P.sub (callF P 19) t3 [s0, s1, s2, s3, .u, s5, s6, s7, s8, s9, s10, s11, s12, s13, s14, s15, s16, s17, .u, .u, .u, .u, .u, .u, .u, .u, .u, .u] = .ok (.nx, [s0, s1, s2, s3, .u, s5, s6, s7, s8, s9, s10, s11, s12, s13, s14, s15, s16, s17, .u, .u, .u, .u, .u, .u, .u, .u, .u, .u]) := by
  unfold t3
  simp only [it_l, it_t, rs_cons, rs_nil, r_asg, r_asg2, r_par2, r_aug, r_own, r_ownC, r_app, r_setP, r_ifs, r_for, r_fgt, r_ret, r_retD, r_retO, r_mv, r_ex, r_brk, r_cont, r_pass, x_v, x_fz, x_int, x_str, x_bl, x_non, x_neg, x_bin, x_cmp, x_chain, x_bop, x_not, x_ite, x_ix, x_sl, xo_no, xo_so, x_tup, x_lst, x_call, x_blt, x_isi, x_mth, x_ixP, x_lenP, x_spc, x_srtK, x_inP, t_inP, r_ownE, r_rem, r_ext, r_augP, r_parL, xs_nil, xs_cons, t_cmp, t_v, t_not, t_bop, t_ite, t_chain, t_isi, t_call, t_gq, t_bl, t_ix, t_bin, t_blt, i_of, n_range1, n_range2, i_zip, i_enum, i_enumz, xc_no, xc_so, fl_nil, fl_cons, bt_n, bt_2, bt_3, wipeE, keepS, backE, ok_bind, ofO_some, datO, List.getElem?_cons_zero, List.getElem?_cons_succ, List.set_cons_zero, List.set_cons_succ, List.map_cons, List.map_nil, dv_add, dv_sub, dv_mul, dv_fdiv, dv_mod, dv_pow, a_int, s_int, d_int, c_le, c_lt, c_gt, c_ge, c_eq, c_ne, e_int, tr_bool, tr_int, tr_none, s_bool, b_bool, b_abs, ip_int, ip_sub, if_true, if_false, eq_self, Bool.not_true, Bool.not_false, Bool.false_eq_true, Bool.true_eq_false, le_0, le_1, le_2, le_3, le_4, ic_lst, endE, Option.map_some, Option.bind_some]
theorem od_draw {a b : Int} (ha : 0 ≤ a ∧ a < 8) (hb : 0 ≤ b ∧ b < 40) : od (Rat.divInt (1 + a + 1 + b) (1 + a)) := by
  refine ⟨sz_divInt (by decide) (by omega) (by omega), ?_⟩
  rw [Rat.divInt_eq_div]
  have h1 : (0 : Rat) < ((1 + a : Int) : Rat) := by
    have := Rat.intCast_lt_intCast.mpr (show (0 : Int) < 1 + a by omega)
    simpa using this
  have h2 : ((1 + a : Int) : Rat) < ((1 + a + 1 + b : Int) : Rat) := Rat.intCast_lt_intCast.mpr (by omega)
  generalize ((1 + a : Int) : Rat) = x at h1 h2 ⊢
  generalize ((1 + a + 1 + b : Int) : Rat) = y at h2 ⊢
  rw [Rat.div_def]
  have h3 : 0 < x⁻¹ := Rat.inv_pos.mpr h1
  have h4 : 0 < (y - x) * x⁻¹ := Rat.mul_pos (by grind) h3
  grind
theorem turn20 {row : List Int} (hr : row ≠ []) (hs : row.length < 1000000) (n : Nat) (m k j : Nat) (z : List (List Rat)) (acc : List Rat) (ha : acc.length < 100) : ∃ q, od q ∧ ((ofO (bindT (.n 20) (.int (j : Int)) [s0, .m false (boxM row n), .d (.int (m : Nat)), .m false (mL frt z), .d (.int (k : Nat)), s5, s6, s7, s8, s9, s10, s11, s12, s13, s14, s15, s16, s17, .u, .m false (mL fr acc), .u, .u, .u, .u, .u, .u, .u, .u])).bind fun σ1 => runs P.C P.sub (callF P 19) i20 σ1) = .ok (.nx, [s0, .m false (boxM row (n + 1 + 1)), .d (.int (m : Nat)), .m false (mL frt z), .d (.int (k : Nat)), s5, s6, s7, s8, s9, s10, s11, s12, s13, s14, s15, s16, s17, .u, .m false (mL fr (acc ++ [q])), .u, .u, .u, .u, .u, .u, .u, .u]) := by
  have g1 := drawn_rng row n (m := 8) (by decide)
  have g2 := drawn_rng row (n + 1) (m := 40) (by decide)
  have hq := od_draw g1 g2
  refine ⟨_, hq, ?_⟩
  have d1 : (sm P.C (callF P 19) (.callO 24 1 [(.int 8)])).v [s0, .m false (boxM row n), .d (.int (m : Nat)), .m false (mL frt z), .d (.int (k : Nat)), s5, s6, s7, s8, s9, s10, s11, s12, s13, s14, s15, s16, s17, .u, .m false (mL fr acc), .d (.int (j : Nat)), .u, .u, .u, .u, .u, .u, .u] = _ := draw_v (C := P.C) (k := 18) (P := P) (f := 24) (j := 1) rfl hr hs (n := n) (m := 8) (by decide) rfl rfl rfl
  have d2 : (sm P.C (callF P 19) (.callO 24 1 [(.int 40)])).v [s0, .m false (boxM row (n + 1)), .d (.int (m : Nat)), .m false (mL frt z), .d (.int (k : Nat)), s5, s6, s7, s8, s9, s10, s11, s12, s13, s14, s15, s16, s17, .u, .m false (mL fr acc), .d (.int (j : Nat)), .u, .d (.int (1 + drawn row n 8)), .u, .u, .u, .u, .u] = _ := draw_v (C := P.C) (k := 18) (P := P) (f := 24) (j := 1) rfl hr hs (n := (n + 1)) (m := 40) (by decide) rfl rfl rfl
  have c : callF P 19 26 [.d (.int (1 + drawn row n 8 + 1 + drawn row (n + 1) 40)), .d (.int (1 + drawn row n 8))] = _ := fracL 17 _ _ (by omega) (Nat.lt_of_lt_of_le (show (1 + drawn row n 8).natAbs < 2 ^ 6 by omega) (Nat.pow_le_pow_right (by decide) (by decide)))
  have ap := app_m (C := P.C) (sub := P.sub) (fn := callF P 19) (em := fr) (σ := [s0, .m false (boxM row (n + 1)), .d (.int (m : Nat)), .m false (mL frt z), .d (.int (k : Nat)), s5, s6, s7, s8, s9, s10, s11, s12, s13, s14, s15, s16, s17, .u, .m false (mL fr acc), .d (.int (j : Nat)), .u, .d (.int (1 + drawn row n 8)), .u, .u, .u, .u, .u]) (σ' := [s0, .m false (boxM row (n + 1 + 1)), .d (.int (m : Nat)), .m false (mL frt z), .d (.int (k : Nat)), s5, s6, s7, s8, s9, s10, s11, s12, s13, s14, s15, s16, s17, .u, .m false (mL fr acc), .d (.int (j : Nat)), .u, .d (.int (1 + drawn row n 8)), .u, .u, .u, .u, .u]) (j := 19) (e := .call 26 [(.bin .add (.bin .add (.v 22) (.int 1)) (.callO 24 1 [(.int 40)])), (.v 22)]) (l := acc) (x := Rat.divInt (1 + drawn row n 8 + 1 + drawn row (n + 1) 40) (1 + drawn row n 8)) rfl (by simp only [it_l, it_t, rs_cons, rs_nil, r_asg, r_asg2, r_par2, r_aug, r_own, r_ownC, r_app, r_setP, r_ifs, r_for, r_fgt, r_ret, r_retD, r_retO, r_mv, r_ex, r_brk, r_cont, r_pass, x_v, x_fz, x_int, x_str, x_bl, x_non, x_neg, x_bin, x_cmp, x_chain, x_bop, x_not, x_ite, x_ix, x_sl, xo_no, xo_so, x_tup, x_lst, x_call, x_blt, x_isi, x_mth, x_ixP, x_lenP, x_spc, x_srtK, x_inP, t_inP, r_ownE, r_rem, r_ext, r_augP, r_parL, xs_nil, xs_cons, t_cmp, t_v, t_not, t_bop, t_ite, t_chain, t_isi, t_call, t_gq, t_bl, t_ix, t_bin, t_blt, i_of, n_range1, n_range2, i_zip, i_enum, i_enumz, xc_no, xc_so, fl_nil, fl_cons, bt_n, bt_2, bt_3, wipeE, keepS, backE, ok_bind, ofO_some, datO, List.getElem?_cons_zero, List.getElem?_cons_succ, List.set_cons_zero, List.set_cons_succ, List.map_cons, List.map_nil, dv_add, dv_sub, dv_mul, dv_fdiv, dv_mod, dv_pow, a_int, s_int, d_int, c_le, c_lt, c_gt, c_ge, c_eq, c_ne, e_int, tr_bool, tr_int, tr_none, s_bool, b_bool, b_abs, ip_int, ip_sub, if_true, if_false, eq_self, Bool.not_true, Bool.not_false, Bool.false_eq_true, Bool.true_eq_false, le_0, le_1, le_2, le_3, le_4, ic_lst, endE, Option.map_some, Option.bind_some, d2, c]) rfl (by omega)
  unfold i20
  simp only [it_l, it_t, rs_cons, rs_nil, r_asg, r_asg2, r_par2, r_aug, r_own, r_ownC, r_setP, r_ifs, r_for, r_fgt, r_ret, r_retD, r_retO, r_mv, r_ex, r_brk, r_cont, r_pass, x_v, x_fz, x_int, x_str, x_bl, x_non, x_neg, x_bin, x_cmp, x_chain, x_bop, x_not, x_ite, x_ix, x_sl, xo_no, xo_so, x_tup, x_lst, x_call, x_blt, x_isi, x_mth, x_ixP, x_lenP, x_spc, x_srtK, x_inP, t_inP, r_ownE, r_rem, r_ext, r_augP, r_parL, xs_nil, xs_cons, t_cmp, t_v, t_not, t_bop, t_ite, t_chain, t_isi, t_call, t_gq, t_bl, t_ix, t_bin, t_blt, i_of, n_range1, n_range2, i_zip, i_enum, i_enumz, xc_no, xc_so, fl_nil, fl_cons, bt_n, bt_2, bt_3, wipeE, keepS, backE, ok_bind, ofO_some, datO, List.getElem?_cons_zero, List.getElem?_cons_succ, List.set_cons_zero, List.set_cons_succ, List.map_cons, List.map_nil, dv_add, dv_sub, dv_mul, dv_fdiv, dv_mod, dv_pow, a_int, s_int, d_int, c_le, c_lt, c_gt, c_ge, c_eq, c_ne, e_int, tr_bool, tr_int, tr_none, s_bool, b_bool, b_abs, ip_int, ip_sub, if_true, if_false, eq_self, Bool.not_true, Bool.not_false, Bool.false_eq_true, Bool.true_eq_false, le_0, le_1, le_2, le_3, le_4, ic_lst, endE, Option.map_some, Option.bind_some,  d1, ap]
theorem turn4 {row : List Int} (hr : row ≠ []) (hs : row.length < 1000000) (n : Nat) (m k : Nat) (hm : m ≤ 4) (z : List (List Rat)) (hz : z.length < 100) : ∃ b : List Rat, b.length = m ∧ (∀ q ∈ b, od q) ∧ ((ofO (bindT (.n 4) (.int (k : Int)) [s0, .m false (boxM row n), .d (.int (m : Nat)), .m false (mL frt z), .u, s5, s6, s7, s8, s9, s10, s11, s12, s13, s14, s15, s16, s17, .u, .u, .u, .u, .u, .u, .u, .u, .u, .u])).bind fun σ1 => runs P.C P.sub (callF P 19) i4 σ1) = .ok (.nx, [s0, .m false (boxM row (n + 2 * m)), .d (.int (m : Nat)), .m false (mL frt (z ++ [b])), .u, s5, s6, s7, s8, s9, s10, s11, s12, s13, s14, s15, s16, s17, .u, .u, .u, .u, .u, .u, .u, .u, .u, .u]) := by
  obtain ⟨w, e1, h1⟩ := forL_ex (b := fun x σ => (ofO (bindT (.n 20) x σ)).bind fun σ1 => runs P.C P.sub (callF P 19) i20 σ1) (em := fun j : Nat => PyData.int (j : Int)) (st := fun w : Nat × List Rat => [s0, .m false (boxM row w.1), .d (.int (m : Nat)), .m false (mL frt z), .d (.int (k : Nat)), s5, s6, s7, s8, s9, s10, s11, s12, s13, s14, s15, s16, s17, .u, .m false (mL fr w.2), .u, .u, .u, .u, .u, .u, .u, .u]) (fun r w => w.2.length + r.length = m ∧ (∀ q ∈ w.2, od q) ∧ w.1 = n + 2 * w.2.length) (List.range m) (n, []) ⟨by rw [List.length_range]; simp, by simp, rfl⟩ (fun j r w ⟨g1, g2, g3⟩ => by
    rw [List.length_cons] at g1
    obtain ⟨q, hq, e⟩ := turn20 (s0 := s0) (s5 := s5) (s6 := s6) (s7 := s7) (s8 := s8) (s9 := s9) (s10 := s10) (s11 := s11) (s12 := s12) (s13 := s13) (s14 := s14) (s15 := s15) (s16 := s16) (s17 := s17) hr hs w.1 m k j z w.2 (by omega)
    refine ⟨(w.1 + 1 + 1, w.2 ++ [q]), e, by rw [List.length_append, List.length_singleton]; omega, fun x hx => ?_, ?_⟩
    · rcases List.mem_append.mp hx with hx | hx
      · exact g2 x hx
      · rw [List.mem_singleton.mp hx]; exact hq
    · show w.1 + 1 + 1 = n + 2 * (w.2 ++ [q]).length
      rw [List.length_append, List.length_singleton, g3]
      omega)
  obtain ⟨n', b⟩ := w
  obtain ⟨h1, h2, h3⟩ := h1
  have h1 : b.length + 0 = m := h1
  have h1 : b.length = m := h1
  have h3 : n' = n + 2 * b.length := h3
  refine ⟨b, h1, h2, ?_⟩
  rw [h1] at h3
  subst h3
  have r0 := rO_0 m (by omega)
  simp only [bt_n, ofO_some, ok_bind] at e1
  have ap := app_m (C := P.C) (sub := P.sub) (fn := callF P 19) (em := frt) (σ := [s0, .m false (boxM row (n + 2 * m)), .d (.int (m : Nat)), .m false (mL frt z), .d (.int (k : Nat)), s5, s6, s7, s8, s9, s10, s11, s12, s13, s14, s15, s16, s17, .u, .m false (mL fr b), .u, .u, .u, .u, .u, .u, .u, .u]) (σ' := [s0, .m false (boxM row (n + 2 * m)), .d (.int (m : Nat)), .m false (mL frt z), .d (.int (k : Nat)), s5, s6, s7, s8, s9, s10, s11, s12, s13, s14, s15, s16, s17, .u, .d (.list (b.map fr)), .u, .u, .u, .u, .u, .u, .u, .u]) (j := 3) (e := .blt .tuple [(.fz 19)]) (l := z) (x := b) rfl (by simp only [it_l, it_t, rs_cons, rs_nil, r_asg, r_asg2, r_par2, r_aug, r_own, r_ownC, r_app, r_setP, r_ifs, r_for, r_fgt, r_ret, r_retD, r_retO, r_mv, r_ex, r_brk, r_cont, r_pass, x_v, x_fz, x_int, x_str, x_bl, x_non, x_neg, x_bin, x_cmp, x_chain, x_bop, x_not, x_ite, x_ix, x_sl, xo_no, xo_so, x_tup, x_lst, x_call, x_blt, x_isi, x_mth, x_ixP, x_lenP, x_spc, x_srtK, x_inP, t_inP, r_ownE, r_rem, r_ext, r_augP, r_parL, xs_nil, xs_cons, t_cmp, t_v, t_not, t_bop, t_ite, t_chain, t_isi, t_call, t_gq, t_bl, t_ix, t_bin, t_blt, i_of, n_range1, n_range2, i_zip, i_enum, i_enumz, xc_no, xc_so, fl_nil, fl_cons, bt_n, bt_2, bt_3, wipeE, keepS, backE, ok_bind, ofO_some, datO, List.getElem?_cons_zero, List.getElem?_cons_succ, List.set_cons_zero, List.set_cons_succ, List.map_cons, List.map_nil, dv_add, dv_sub, dv_mul, dv_fdiv, dv_mod, dv_pow, a_int, s_int, d_int, c_le, c_lt, c_gt, c_ge, c_eq, c_ne, e_int, tr_bool, tr_int, tr_none, s_bool, b_bool, b_abs, ip_int, ip_sub, if_true, if_false, eq_self, Bool.not_true, Bool.not_false, Bool.false_eq_true, Bool.true_eq_false, le_0, le_1, le_2, le_3, le_4, ic_lst, endE, Option.map_some, Option.bind_some, x_fz, mL_toD, t_list, frt_of]) rfl (by omega)
  unfold i4
  unfold i20 at e1
  simp only [it_l, it_t, rs_cons, rs_nil, r_asg, r_asg2, r_par2, r_aug, r_own, r_ownC, r_setP, r_ifs, r_for, r_fgt, r_ret, r_retD, r_retO, r_mv, r_ex, r_brk, r_cont, r_pass, x_v, x_fz, x_int, x_str, x_bl, x_non, x_neg, x_bin, x_cmp, x_chain, x_bop, x_not, x_ite, x_ix, x_sl, xo_no, xo_so, x_tup, x_lst, x_call, x_blt, x_isi, x_mth, x_ixP, x_lenP, x_spc, x_srtK, x_inP, t_inP, r_ownE, r_rem, r_ext, r_augP, r_parL, xs_nil, xs_cons, t_cmp, t_v, t_not, t_bop, t_ite, t_chain, t_isi, t_call, t_gq, t_bl, t_ix, t_bin, t_blt, i_of, n_range1, n_range2, i_zip, i_enum, i_enumz, xc_no, xc_so, fl_nil, fl_cons, bt_n, bt_2, bt_3, wipeE, keepS, backE, ok_bind, ofO_some, datO, List.getElem?_cons_zero, List.getElem?_cons_succ, List.set_cons_zero, List.set_cons_succ, List.map_cons, List.map_nil, dv_add, dv_sub, dv_mul, dv_fdiv, dv_mod, dv_pow, a_int, s_int, d_int, c_le, c_lt, c_gt, c_ge, c_eq, c_ne, e_int, tr_bool, tr_int, tr_none, s_bool, b_bool, b_abs, ip_int, ip_sub, if_true, if_false, eq_self, Bool.not_true, Bool.not_false, Bool.false_eq_true, Bool.true_eq_false, le_0, le_1, le_2, le_3, le_4, ic_lst, endE, Option.map_some, Option.bind_some] at e1
  simp only [it_l, it_t, rs_cons, rs_nil, r_asg, r_asg2, r_par2, r_aug, r_own, r_ownC, r_setP, r_ifs, r_for, r_fgt, r_ret, r_retD, r_retO, r_mv, r_ex, r_brk, r_cont, r_pass, x_v, x_fz, x_int, x_str, x_bl, x_non, x_neg, x_bin, x_cmp, x_chain, x_bop, x_not, x_ite, x_ix, x_sl, xo_no, xo_so, x_tup, x_lst, x_call, x_blt, x_isi, x_mth, x_ixP, x_lenP, x_spc, x_srtK, x_inP, t_inP, r_ownE, r_rem, r_ext, r_augP, r_parL, xs_nil, xs_cons, t_cmp, t_v, t_not, t_bop, t_ite, t_chain, t_isi, t_call, t_gq, t_bl, t_ix, t_bin, t_blt, i_of, n_range1, n_range2, i_zip, i_enum, i_enumz, xc_no, xc_so, fl_nil, fl_cons, bt_n, bt_2, bt_3, wipeE, keepS, backE, ok_bind, ofO_some, datO, List.getElem?_cons_zero, List.getElem?_cons_succ, List.set_cons_zero, List.set_cons_succ, List.map_cons, List.map_nil, dv_add, dv_sub, dv_mul, dv_fdiv, dv_mod, dv_pow, a_int, s_int, d_int, c_le, c_lt, c_gt, c_ge, c_eq, c_ne, e_int, tr_bool, tr_int, tr_none, s_bool, b_bool, b_abs, ip_int, ip_sub, if_true, if_false, eq_self, Bool.not_true, Bool.not_false, Bool.false_eq_true, Bool.true_eq_false, le_0, le_1, le_2, le_3, le_4, ic_lst, endE, Option.map_some, Option.bind_some,  mL_nil fr, r0, e1, ap]
theorem p4 {row : List Int} (hr : row ≠ []) (hs : row.length < 1000000) (n : Nat) (m : Nat) (h2 : 2 ≤ m) (hm : m ≤ 4) : ∃ (n' : Nat) (bs : List (List Rat)), okB bs m ∧ run P.C P.sub (callF P 19) t4 [s0, .m false (boxM row n), .d (.int (m : Nat)), .m false (mL frt []), .u, s5, s6, s7, s8, s9, s10, s11, s12, s13, s14, s15, s16, s17, .u, .u, .u, .u, .u, .u, .u, .u, .u, .u] = .ok (.nx, [s0, .m false (boxM row n'), .d (.int (m : Nat)), .m false (mL frt bs), .u, s5, s6, s7, s8, s9, s10, s11, s12, s13, s14, s15, s16, s17, .u, .u, .u, .u, .u, .u, .u, .u, .u, .u]) := by
  have g1 := drawn_rng row n (m := 3) (by decide)
  obtain ⟨c, ec⟩ : ∃ c : Nat, 1 + drawn row n 3 = (c : Nat) := ⟨_, (Int.toNat_of_nonneg (by omega)).symm⟩
  have d : (sm P.C (callF P 19) (.callO 24 1 [(.int 3)])).v [s0, .m false (boxM row n), .d (.int (m : Nat)), .m false (mL frt []), .u, s5, s6, s7, s8, s9, s10, s11, s12, s13, s14, s15, s16, s17, .u, .u, .u, .u, .u, .u, .u, .u, .u, .u] = _ := draw_v (C := P.C) (k := 18) (P := P) (f := 24) (j := 1) rfl hr hs (n := n) (m := 3) (by decide) rfl rfl rfl
  obtain ⟨w, e1, h1⟩ := forL_ex (b := fun x σ => (ofO (bindT (.n 4) x σ)).bind fun σ1 => runs P.C P.sub (callF P 19) i4 σ1) (em := fun j : Nat => PyData.int (j : Int)) (st := fun w : Nat × List (List Rat) => [s0, .m false (boxM row w.1), .d (.int (m : Nat)), .m false (mL frt w.2), .u, s5, s6, s7, s8, s9, s10, s11, s12, s13, s14, s15, s16, s17, .u, .u, .u, .u, .u, .u, .u, .u, .u, .u]) (fun r w => w.2.length + r.length = c ∧ (∀ b ∈ w.2, b.length = m ∧ ∀ q ∈ b, od q)) (List.range c) (n + 1, []) ⟨by rw [List.length_range]; simp, by simp⟩ (fun j r w ⟨g1, g2⟩ => by
    rw [List.length_cons] at g1
    obtain ⟨b, l1, o1, e⟩ := turn4 (s0 := s0) (s5 := s5) (s6 := s6) (s7 := s7) (s8 := s8) (s9 := s9) (s10 := s10) (s11 := s11) (s12 := s12) (s13 := s13) (s14 := s14) (s15 := s15) (s16 := s16) (s17 := s17) hr hs w.1 m j hm w.2 (by omega)
    refine ⟨(w.1 + 2 * m, w.2 ++ [b]), e, by rw [List.length_append, List.length_singleton]; omega, fun x hx => ?_⟩
    rcases List.mem_append.mp hx with hx | hx
    · exact g2 x hx
    · rw [List.mem_singleton.mp hx]; exact ⟨l1, o1⟩)
  obtain ⟨n', bs⟩ := w
  obtain ⟨h1, h3⟩ := h1
  have h1 : bs.length + 0 = c := h1
  have h1 : bs.length = c := h1
  refine ⟨n', bs, ⟨by omega, by omega, by omega, hm, fun b hb => (h3 b hb).1, fun b hb => (h3 b hb).2⟩, ?_⟩
  have r0 := rO_0 c (by omega)
  unfold t4
  unfold i4 at e1
  simp only [it_l, it_t, rs_cons, rs_nil, r_asg, r_asg2, r_par2, r_aug, r_own, r_ownC, r_app, r_setP, r_ifs, r_for, r_fgt, r_ret, r_retD, r_retO, r_mv, r_ex, r_brk, r_cont, r_pass, x_v, x_fz, x_int, x_str, x_bl, x_non, x_neg, x_bin, x_cmp, x_chain, x_bop, x_not, x_ite, x_ix, x_sl, xo_no, xo_so, x_tup, x_lst, x_call, x_blt, x_isi, x_mth, x_ixP, x_lenP, x_spc, x_srtK, x_inP, t_inP, r_ownE, r_rem, r_ext, r_augP, r_parL, xs_nil, xs_cons, t_cmp, t_v, t_not, t_bop, t_ite, t_chain, t_isi, t_call, t_gq, t_bl, t_ix, t_bin, t_blt, i_of, n_range1, n_range2, i_zip, i_enum, i_enumz, xc_no, xc_so, fl_nil, fl_cons, bt_n, bt_2, bt_3, wipeE, keepS, backE, ok_bind, ofO_some, datO, List.getElem?_cons_zero, List.getElem?_cons_succ, List.set_cons_zero, List.set_cons_succ, List.map_cons, List.map_nil, dv_add, dv_sub, dv_mul, dv_fdiv, dv_mod, dv_pow, a_int, s_int, d_int, c_le, c_lt, c_gt, c_ge, c_eq, c_ne, e_int, tr_bool, tr_int, tr_none, s_bool, b_bool, b_abs, ip_int, ip_sub, if_true, if_false, eq_self, Bool.not_true, Bool.not_false, Bool.false_eq_true, Bool.true_eq_false, le_0, le_1, le_2, le_3, le_4, ic_lst, endE, Option.map_some, Option.bind_some] at e1
  simp only [it_l, it_t, rs_cons, rs_nil, r_asg, r_asg2, r_par2, r_aug, r_own, r_ownC, r_app, r_setP, r_ifs, r_for, r_fgt, r_ret, r_retD, r_retO, r_mv, r_ex, r_brk, r_cont, r_pass, x_v, x_fz, x_int, x_str, x_bl, x_non, x_neg, x_bin, x_cmp, x_chain, x_bop, x_not, x_ite, x_ix, x_sl, xo_no, xo_so, x_tup, x_lst, x_call, x_blt, x_isi, x_mth, x_ixP, x_lenP, x_spc, x_srtK, x_inP, t_inP, r_ownE, r_rem, r_ext, r_augP, r_parL, xs_nil, xs_cons, t_cmp, t_v, t_not, t_bop, t_ite, t_chain, t_isi, t_call, t_gq, t_bl, t_ix, t_bin, t_blt, i_of, n_range1, n_range2, i_zip, i_enum, i_enumz, xc_no, xc_so, fl_nil, fl_cons, bt_n, bt_2, bt_3, wipeE, keepS, backE, ok_bind, ofO_some, datO, List.getElem?_cons_zero, List.getElem?_cons_succ, List.set_cons_zero, List.set_cons_succ, List.map_cons, List.map_nil, dv_add, dv_sub, dv_mul, dv_fdiv, dv_mod, dv_pow, a_int, s_int, d_int, c_le, c_lt, c_gt, c_ge, c_eq, c_ne, e_int, tr_bool, tr_int, tr_none, s_bool, b_bool, b_abs, ip_int, ip_sub, if_true, if_false, eq_self, Bool.not_true, Bool.not_false, Bool.false_eq_true, Bool.true_eq_false, le_0, le_1, le_2, le_3, le_4, ic_lst, endE, Option.map_some, Option.bind_some, d, ec, r0, e1]
end
end K28
namespace K28
open PySem N
theorem atI_natG {α : Type} {xs : List α} {j : Nat} (h : j < xs.length) : L2.atI xs (j : Int) = xs[j]? := by
  unfold L2.atI L2.ixN
  rw [if_pos (by omega), if_pos (by omega)]
  show xs[((j : Nat) : Int).toNat]? = _
  rw [Int.toNat_natCast]
theorem muIx_mL0 {α : Type} (em : α → D) (d : α) (l : List α) (h : 0 < l.length) : muIx (mL em l) (.int 0) = some (em (l.getD 0 d)) := by
  show (match L2.atI (l.map fun x => Mu.d (em x)) ((0 : Nat) : Int) with | some (.d x) => some x | _ => none) = _
  rw [atI_natG (by rw [List.length_map]; exact h), List.getElem?_map, List.getD_eq_getElem?_getD, List.getElem?_eq_getElem h]
  rfl
theorem ix_cons0 (x : D) (xs : List D) : idxD (.list (x :: xs)) (.int 0) = some x := by
  have := ix_map0 (fun x : D => x) .none (x :: xs) (Nat.succ_pos _)
  rw [List.map_id'] at this
  exact this
theorem bsts_len {bs : List (List Rat)} {m : Nat} : (bsts bs m).length = m := by unfold bsts; rw [List.length_map, List.length_range]
def fa (o : List Rat) : List Rat := o.map fun q => inv q * inv (Wh o)
theorem fold_mul (c : Rat) : ∀ (l : List Rat) (z : Rat), (l.map fun q => q * c).foldl (· + ·) (z * c) = l.foldl (· + ·) z * c
  | [], z => rfl
  | q :: l, z => by
    rw [List.map_cons, List.foldl_cons, List.foldl_cons, ← fold_mul c l (z + q)]
    congr 1
    grind
theorem rsum_mul (c : Rat) (l : List Rat) : rsum (l.map fun q => q * c) = rsum l * c := by
  have := fold_mul c l 0
  rw [Rat.zero_mul] at this
  exact this
theorem rsum_fa {o : List Rat} (h : Wh o ≠ 0) : rsum (fa o) = 1 := by
  have e : fa o = (o.map inv).map fun q => q * inv (Wh o) := by unfold fa; rw [List.map_map]; rfl
  rw [e, rsum_mul]
  show Wh o * (Wh o)⁻¹ = 1
  exact Rat.mul_inv_cancel _ h
theorem fa_od {o : List Rat} {m : Nat} (ho : ∀ q ∈ o, od q) (lo : o.length = m) (h0 : 0 < m) (hm : m ≤ 4) : ∀ q ∈ fa o, sz 35 q ∧ 0 < q := fun q hq => by
  obtain ⟨p, hp, rfl⟩ := List.mem_map.mp hq
  have wp := Wh_pos (l := o) (fun q hq => od_pos (ho q hq)) (fun e => by rw [e] at lo; simp at lo; omega)
  exact ⟨sz_mul (sz_inv (ho p hp).1) (sz_inv (Wh_sz (fun q hq => (ho q hq).1) (by omega))), Rat.mul_pos (inv_pos (od_pos (ho p hp))) (inv_pos wp)⟩
theorem fa_len {o : List Rat} : (fa o).length = o.length := by unfold fa; rw [List.length_map]
theorem frs_map {α : Type} (f : α → Rat) (l : List α) : (PyData.list (l.map fun x => fr (f x)) : D) = frs (l.map f) := by unfold frs; rw [List.map_map]; rfl
theorem frt_map {α : Type} (f : α → Rat) (l : List α) : (PyData.tuple (l.map fun x => fr (f x)) : D) = frt (l.map f) := by unfold frt; rw [List.map_map]; rfl
theorem eq_prs (l : List (Rat × Nat)) : eqD (.list (l.map pr)) (.list (l.map pr)) = some true := by
  have h := eqD_e (α := List (Rat × Int)) (by decide) (l.map fun p => (p.1, (p.2 : Int))) (l.map fun p => (p.1, (p.2 : Int)))
  have e : (Em.e (l.map fun p : Rat × Nat => (p.1, (p.2 : Int))) : D) = .list (l.map pr) := by
    show PyData.list ((l.map _).map _) = _
    rw [List.map_map]; rfl
  rw [e] at h
  rw [h]
  exact congrArg some (decide_eq_true rfl)
theorem eq_pr (p : Rat × Nat) : eqD (pr p) (pr p) = some true := by
  have h := eqD_e (α := Rat × Int) (by decide) (p.1, (p.2 : Int)) (p.1, (p.2 : Int))
  exact h.trans (congrArg some (decide_eq_true rfl))
/-- some of a list of fractions as a comprehension over their numbers -/
theorem cmp_isN {xs : List D} : cmpD .isnot (.tuple xs) .none = some true := rfl
section
variable {s0 s1 s2 s3 s5 s6 s7 s8 s9 s10 s11 s12 s13 s14 s15 s16 s17 : Slot}
theorem p5 {bs : List (List Rat)} (h : 0 < bs.length) : run P.C P.sub (callF P 19) t5 [s0, s1, s2, .m false (mL frt bs), .u, s5, s6, s7, s8, s9, s10, s11, s12, s13, s14, s15, s16, s17, .u, .u, .u, .u, .u, .u, .u, .u, .u, .u] = .ok (.nx, [s0, s1, s2, .m false (mL frt bs), .u, .d (frt (bs.getD 0 [])), s6, s7, s8, s9, s10, s11, s12, s13, s14, s15, s16, s17, .u, .u, .u, .u, .u, .u, .u, .u, .u, .u]) := by
  have i := muIx_mL0 frt [] bs h
  unfold t5
  simp only [it_l, it_t, rs_cons, rs_nil, r_asg, r_asg2, r_par2, r_aug, r_own, r_ownC, r_app, r_setP, r_ifs, r_for, r_fgt, r_ret, r_retD, r_retO, r_mv, r_ex, r_brk, r_cont, r_pass, x_v, x_fz, x_int, x_str, x_bl, x_non, x_neg, x_bin, x_cmp, x_chain, x_bop, x_not, x_ite, x_ix, x_sl, xo_no, xo_so, x_tup, x_lst, x_call, x_blt, x_isi, x_mth, x_ixP, x_lenP, x_spc, x_srtK, x_inP, t_inP, r_ownE, r_rem, r_ext, r_augP, r_parL, xs_nil, xs_cons, t_cmp, t_v, t_not, t_bop, t_ite, t_chain, t_isi, t_call, t_gq, t_bl, t_ix, t_bin, t_blt, i_of, n_range1, n_range2, i_zip, i_enum, i_enumz, xc_no, xc_so, fl_nil, fl_cons, bt_n, bt_2, bt_3, wipeE, keepS, backE, ok_bind, ofO_some, datO, List.getElem?_cons_zero, List.getElem?_cons_succ, List.set_cons_zero, List.set_cons_succ, List.map_cons, List.map_nil, dv_add, dv_sub, dv_mul, dv_fdiv, dv_mod, dv_pow, a_int, s_int, d_int, c_le, c_lt, c_gt, c_ge, c_eq, c_ne, e_int, tr_bool, tr_int, tr_none, s_bool, b_bool, b_abs, ip_int, ip_sub, if_true, if_false, eq_self, Bool.not_true, Bool.not_false, Bool.false_eq_true, Bool.true_eq_false, le_0, le_1, le_2, le_3, le_4, ic_lst, endE, Option.map_some, Option.bind_some, i]
theorem p6 {o : List Rat} {m : Nat} (ho : ∀ q ∈ o, od q) (lo : o.length = m) (h0 : 0 < m) (hm : m ≤ 4) : run P.C P.sub (callF P 19) t6 [s0, s1, s2, s3, .u, .d (frt o), s6, s7, s8, s9, s10, s11, s12, s13, s14, s15, s16, s17, .u, .u, .u, .u, .u, .u, .u, .u, .u, .u] = .ok (.nx, [s0, s1, s2, s3, .u, .d (frt o), .d (fr (Wh o)), s7, s8, s9, s10, s11, s12, s13, s14, s15, s16, s17, .u, .u, .u, .u, .u, .u, .u, .u, .u, .u]) := by
  have hL := line_v
  have ne : o ≠ [] := fun e => by rw [e] at lo; simp at lo; omega
  have wp := Wh_pos (fun q hq => od_pos (ho q hq)) ne
  have ws := Wh_sz (fun q hq => (ho q hq).1) (by omega)
  have la := lc_map (C := P.C) (fn := callF P 19) (σ := [s0, s1, s2, s3, .u, .d (frt o), s6, s7, s8, s9, s10, s11, s12, s13, s14, s15, s16, s17, .u, .u, .u, .u, .u, .u, .u, .u, .u, .u]) (σ1 := [s0, s1, s2, s3, .u, .d (frt o), s6, s7, s8, s9, s10, s11, s12, s13, s14, s15, s16, s17, .u, .u, .u, .u, .u, .u, .u, .u, .u, .u]) (elt := .call 30 [(.v 18)]) (tg := .n 18) (it := .of (.v 5)) (own := [18]) (l := o) (em := fr) (g := fun q => fr (inv q)) (by simp only [it_l, it_t, rs_cons, rs_nil, r_asg, r_asg2, r_par2, r_aug, r_own, r_ownC, r_app, r_setP, r_ifs, r_for, r_fgt, r_ret, r_retD, r_retO, r_mv, r_ex, r_brk, r_cont, r_pass, x_v, x_fz, x_int, x_str, x_bl, x_non, x_neg, x_bin, x_cmp, x_chain, x_bop, x_not, x_ite, x_ix, x_sl, xo_no, xo_so, x_tup, x_lst, x_call, x_blt, x_isi, x_mth, x_ixP, x_lenP, x_spc, x_srtK, x_inP, t_inP, r_ownE, r_rem, r_ext, r_augP, r_parL, xs_nil, xs_cons, t_cmp, t_v, t_not, t_bop, t_ite, t_chain, t_isi, t_call, t_gq, t_bl, t_ix, t_bin, t_blt, i_of, n_range1, n_range2, i_zip, i_enum, i_enumz, xc_no, xc_so, fl_nil, fl_cons, bt_n, bt_2, bt_3, wipeE, keepS, backE, ok_bind, ofO_some, datO, List.getElem?_cons_zero, List.getElem?_cons_succ, List.set_cons_zero, List.set_cons_succ, List.map_cons, List.map_nil, dv_add, dv_sub, dv_mul, dv_fdiv, dv_mod, dv_pow, a_int, s_int, d_int, c_le, c_lt, c_gt, c_ge, c_eq, c_ne, e_int, tr_bool, tr_int, tr_none, s_bool, b_bool, b_abs, ip_int, ip_sub, if_true, if_false, eq_self, Bool.not_true, Bool.not_false, Bool.false_eq_true, Bool.true_eq_false, le_0, le_1, le_2, le_3, le_4, ic_lst, endE, Option.map_some, Option.bind_some, it_frt]) (by omega) (fun q hq => by
      have c : callF P 19 30 [.d (fr q)] = _ := turned 18 (od_pos (ho q hq))
      simp only [it_l, it_t, rs_cons, rs_nil, r_asg, r_asg2, r_par2, r_aug, r_own, r_ownC, r_app, r_setP, r_ifs, r_for, r_fgt, r_ret, r_retD, r_retO, r_mv, r_ex, r_brk, r_cont, r_pass, x_v, x_fz, x_int, x_str, x_bl, x_non, x_neg, x_bin, x_cmp, x_chain, x_bop, x_not, x_ite, x_ix, x_sl, xo_no, xo_so, x_tup, x_lst, x_call, x_blt, x_isi, x_mth, x_ixP, x_lenP, x_spc, x_srtK, x_inP, t_inP, r_ownE, r_rem, r_ext, r_augP, r_parL, xs_nil, xs_cons, t_cmp, t_v, t_not, t_bop, t_ite, t_chain, t_isi, t_call, t_gq, t_bl, t_ix, t_bin, t_blt, i_of, n_range1, n_range2, i_zip, i_enum, i_enumz, xc_no, xc_so, fl_nil, fl_cons, bt_n, bt_2, bt_3, wipeE, keepS, backE, ok_bind, ofO_some, datO, List.getElem?_cons_zero, List.getElem?_cons_succ, List.set_cons_zero, List.set_cons_succ, List.map_cons, List.map_nil, dv_add, dv_sub, dv_mul, dv_fdiv, dv_mod, dv_pow, a_int, s_int, d_int, c_le, c_lt, c_gt, c_ge, c_eq, c_ne, e_int, tr_bool, tr_int, tr_none, s_bool, b_bool, b_abs, ip_int, ip_sub, if_true, if_false, eq_self, Bool.not_true, Bool.not_false, Bool.false_eq_true, Bool.true_eq_false, le_0, le_1, le_2, le_3, le_4, ic_lst, endE, Option.map_some, Option.bind_some, c]
      rfl)
  have c2 : callF P 19 29 [.d (frs (o.map inv))] = _ := sumL 15 (i := 6) (o.map inv) (fun q hq => by
    obtain ⟨p, hp, rfl⟩ := List.mem_map.mp hq
    exact sz_inv (ho p hp).1) (by rw [List.length_map]; omega) rfl
  unfold t6
  simp only [it_l, it_t, rs_cons, rs_nil, r_asg, r_asg2, r_par2, r_aug, r_own, r_ownC, r_app, r_setP, r_ifs, r_for, r_fgt, r_ret, r_retD, r_retO, r_mv, r_ex, r_brk, r_cont, r_pass, x_v, x_fz, x_int, x_str, x_bl, x_non, x_neg, x_bin, x_cmp, x_chain, x_bop, x_not, x_ite, x_ix, x_sl, xo_no, xo_so, x_tup, x_lst, x_call, x_blt, x_isi, x_mth, x_ixP, x_lenP, x_spc, x_srtK, x_inP, t_inP, r_ownE, r_rem, r_ext, r_augP, r_parL, xs_nil, xs_cons, t_cmp, t_v, t_not, t_bop, t_ite, t_chain, t_isi, t_call, t_gq, t_bl, t_ix, t_bin, t_blt, i_of, n_range1, n_range2, i_zip, i_enum, i_enumz, xc_no, xc_so, fl_nil, fl_cons, bt_n, bt_2, bt_3, wipeE, keepS, backE, ok_bind, ofO_some, datO, List.getElem?_cons_zero, List.getElem?_cons_succ, List.set_cons_zero, List.set_cons_succ, List.map_cons, List.map_nil, dv_add, dv_sub, dv_mul, dv_fdiv, dv_mod, dv_pow, a_int, s_int, d_int, c_le, c_lt, c_gt, c_ge, c_eq, c_ne, e_int, tr_bool, tr_int, tr_none, s_bool, b_bool, b_abs, ip_int, ip_sub, if_true, if_false, eq_self, Bool.not_true, Bool.not_false, Bool.false_eq_true, Bool.true_eq_false, le_0, le_1, le_2, le_3, le_4, ic_lst, endE, Option.map_some, Option.bind_some, la, frs_map, c2]
  rfl
theorem p7 {o : List Rat} {m : Nat} (ho : ∀ q ∈ o, od q) (lo : o.length = m) (h0 : 0 < m) (hm : m ≤ 4) : run P.C P.sub (callF P 19) t7 [s0, s1, s2, s3, .u, .d (frt o), .d (fr (Wh o)), s7, s8, s9, s10, s11, s12, s13, s14, s15, s16, s17, .u, .u, .u, .u, .u, .u, .u, .u, .u, .u] = .ok (.nx, [s0, s1, s2, s3, .u, .d (frt o), .d (fr (Wh o)), .d (frs (fa o)), s8, s9, s10, s11, s12, s13, s14, s15, s16, s17, .u, .u, .u, .u, .u, .u, .u, .u, .u, .u]) := by
  have hL := line_v
  have ne : o ≠ [] := fun e => by rw [e] at lo; simp at lo; omega
  have wp := Wh_pos (fun q hq => od_pos (ho q hq)) ne
  have ws := Wh_sz (fun q hq => (ho q hq).1) (by omega)
  have la := lc_map (C := P.C) (fn := callF P 19) (σ := [s0, s1, s2, s3, .u, .d (frt o), .d (fr (Wh o)), s7, s8, s9, s10, s11, s12, s13, s14, s15, s16, s17, .u, .u, .u, .u, .u, .u, .u, .u, .u, .u]) (σ1 := [s0, s1, s2, s3, .u, .d (frt o), .d (fr (Wh o)), s7, s8, s9, s10, s11, s12, s13, s14, s15, s16, s17, .u, .u, .u, .u, .u, .u, .u, .u, .u, .u]) (elt := .call 28 [(.call 30 [(.v 18)]), (.call 30 [(.v 6)])]) (tg := .n 18) (it := .of (.v 5)) (own := [18]) (l := o) (em := fr) (g := fun q => fr (inv q * inv (Wh o))) (by simp only [it_l, it_t, rs_cons, rs_nil, r_asg, r_asg2, r_par2, r_aug, r_own, r_ownC, r_app, r_setP, r_ifs, r_for, r_fgt, r_ret, r_retD, r_retO, r_mv, r_ex, r_brk, r_cont, r_pass, x_v, x_fz, x_int, x_str, x_bl, x_non, x_neg, x_bin, x_cmp, x_chain, x_bop, x_not, x_ite, x_ix, x_sl, xo_no, xo_so, x_tup, x_lst, x_call, x_blt, x_isi, x_mth, x_ixP, x_lenP, x_spc, x_srtK, x_inP, t_inP, r_ownE, r_rem, r_ext, r_augP, r_parL, xs_nil, xs_cons, t_cmp, t_v, t_not, t_bop, t_ite, t_chain, t_isi, t_call, t_gq, t_bl, t_ix, t_bin, t_blt, i_of, n_range1, n_range2, i_zip, i_enum, i_enumz, xc_no, xc_so, fl_nil, fl_cons, bt_n, bt_2, bt_3, wipeE, keepS, backE, ok_bind, ofO_some, datO, List.getElem?_cons_zero, List.getElem?_cons_succ, List.set_cons_zero, List.set_cons_succ, List.map_cons, List.map_nil, dv_add, dv_sub, dv_mul, dv_fdiv, dv_mod, dv_pow, a_int, s_int, d_int, c_le, c_lt, c_gt, c_ge, c_eq, c_ne, e_int, tr_bool, tr_int, tr_none, s_bool, b_bool, b_abs, ip_int, ip_sub, if_true, if_false, eq_self, Bool.not_true, Bool.not_false, Bool.false_eq_true, Bool.true_eq_false, le_0, le_1, le_2, le_3, le_4, ic_lst, endE, Option.map_some, Option.bind_some, it_frt]) (by omega) (fun q hq => by
      have c : callF P 19 30 [.d (fr q)] = _ := turned 18 (od_pos (ho q hq))
      have c1 : callF P 19 30 [.d (fr (Wh o))] = _ := turned 18 wp
      have c2 : callF P 19 28 [.d (fr q⁻¹), .d (fr (Wh o)⁻¹)] = _ := timesL 16 (sz_inv (ho q hq).1) (sz_inv ws) (by omega)
      simp only [it_l, it_t, rs_cons, rs_nil, r_asg, r_asg2, r_par2, r_aug, r_own, r_ownC, r_app, r_setP, r_ifs, r_for, r_fgt, r_ret, r_retD, r_retO, r_mv, r_ex, r_brk, r_cont, r_pass, x_v, x_fz, x_int, x_str, x_bl, x_non, x_neg, x_bin, x_cmp, x_chain, x_bop, x_not, x_ite, x_ix, x_sl, xo_no, xo_so, x_tup, x_lst, x_call, x_blt, x_isi, x_mth, x_ixP, x_lenP, x_spc, x_srtK, x_inP, t_inP, r_ownE, r_rem, r_ext, r_augP, r_parL, xs_nil, xs_cons, t_cmp, t_v, t_not, t_bop, t_ite, t_chain, t_isi, t_call, t_gq, t_bl, t_ix, t_bin, t_blt, i_of, n_range1, n_range2, i_zip, i_enum, i_enumz, xc_no, xc_so, fl_nil, fl_cons, bt_n, bt_2, bt_3, wipeE, keepS, backE, ok_bind, ofO_some, datO, List.getElem?_cons_zero, List.getElem?_cons_succ, List.set_cons_zero, List.set_cons_succ, List.map_cons, List.map_nil, dv_add, dv_sub, dv_mul, dv_fdiv, dv_mod, dv_pow, a_int, s_int, d_int, c_le, c_lt, c_gt, c_ge, c_eq, c_ne, e_int, tr_bool, tr_int, tr_none, s_bool, b_bool, b_abs, ip_int, ip_sub, if_true, if_false, eq_self, Bool.not_true, Bool.not_false, Bool.false_eq_true, Bool.true_eq_false, le_0, le_1, le_2, le_3, le_4, ic_lst, endE, Option.map_some, Option.bind_some, c, c1, c2]
      rfl)
  unfold t7
  simp only [it_l, it_t, rs_cons, rs_nil, r_asg, r_asg2, r_par2, r_aug, r_own, r_ownC, r_app, r_setP, r_ifs, r_for, r_fgt, r_ret, r_retD, r_retO, r_mv, r_ex, r_brk, r_cont, r_pass, x_v, x_fz, x_int, x_str, x_bl, x_non, x_neg, x_bin, x_cmp, x_chain, x_bop, x_not, x_ite, x_ix, x_sl, xo_no, xo_so, x_tup, x_lst, x_call, x_blt, x_isi, x_mth, x_ixP, x_lenP, x_spc, x_srtK, x_inP, t_inP, r_ownE, r_rem, r_ext, r_augP, r_parL, xs_nil, xs_cons, t_cmp, t_v, t_not, t_bop, t_ite, t_chain, t_isi, t_call, t_gq, t_bl, t_ix, t_bin, t_blt, i_of, n_range1, n_range2, i_zip, i_enum, i_enumz, xc_no, xc_so, fl_nil, fl_cons, bt_n, bt_2, bt_3, wipeE, keepS, backE, ok_bind, ofO_some, datO, List.getElem?_cons_zero, List.getElem?_cons_succ, List.set_cons_zero, List.set_cons_succ, List.map_cons, List.map_nil, dv_add, dv_sub, dv_mul, dv_fdiv, dv_mod, dv_pow, a_int, s_int, d_int, c_le, c_lt, c_gt, c_ge, c_eq, c_ne, e_int, tr_bool, tr_int, tr_none, s_bool, b_bool, b_abs, ip_int, ip_sub, if_true, if_false, eq_self, Bool.not_true, Bool.not_false, Bool.false_eq_true, Bool.true_eq_false, le_0, le_1, le_2, le_3, le_4, ic_lst, endE, Option.map_some, Option.bind_some, la, frs_map]
  rfl
theorem p8 {o : List Rat} {m : Nat} (ho : ∀ q ∈ o, od q) (lo : o.length = m) (h0 : 0 < m) (hm : m ≤ 4) : run P.C P.sub (callF P 19) t8 [s0, s1, s2, s3, .u, .d (frt o), s6, s7, s8, s9, s10, s11, s12, s13, s14, s15, s16, s17, .u, .u, .u, .u, .u, .u, .u, .u, .u, .u] = .ok (.nx, [s0, s1, s2, s3, .u, .d (frt o), s6, s7, .d (frs (fa o)), s9, s10, s11, s12, s13, s14, s15, s16, s17, .u, .u, .u, .u, .u, .u, .u, .u, .u, .u]) := by
  have hL := line_v
  have ne : o ≠ [] := fun e => by rw [e] at lo; simp at lo; omega
  have wp := Wh_pos (fun q hq => od_pos (ho q hq)) ne
  have ws := Wh_sz (fun q hq => (ho q hq).1) (by omega)
  have c := w_fair 13 (z := frt o) o ho ne (by omega) rfl
  unfold t8
  simp only [it_l, it_t, rs_cons, rs_nil, r_asg, r_asg2, r_par2, r_aug, r_own, r_ownC, r_app, r_setP, r_ifs, r_for, r_fgt, r_ret, r_retD, r_retO, r_mv, r_ex, r_brk, r_cont, r_pass, x_v, x_fz, x_int, x_str, x_bl, x_non, x_neg, x_bin, x_cmp, x_chain, x_bop, x_not, x_ite, x_ix, x_sl, xo_no, xo_so, x_tup, x_lst, x_call, x_blt, x_isi, x_mth, x_ixP, x_lenP, x_spc, x_srtK, x_inP, t_inP, r_ownE, r_rem, r_ext, r_augP, r_parL, xs_nil, xs_cons, t_cmp, t_v, t_not, t_bop, t_ite, t_chain, t_isi, t_call, t_gq, t_bl, t_ix, t_bin, t_blt, i_of, n_range1, n_range2, i_zip, i_enum, i_enumz, xc_no, xc_so, fl_nil, fl_cons, bt_n, bt_2, bt_3, wipeE, keepS, backE, ok_bind, ofO_some, datO, List.getElem?_cons_zero, List.getElem?_cons_succ, List.set_cons_zero, List.set_cons_succ, List.map_cons, List.map_nil, dv_add, dv_sub, dv_mul, dv_fdiv, dv_mod, dv_pow, a_int, s_int, d_int, c_le, c_lt, c_gt, c_ge, c_eq, c_ne, e_int, tr_bool, tr_int, tr_none, s_bool, b_bool, b_abs, ip_int, ip_sub, if_true, if_false, eq_self, Bool.not_true, Bool.not_false, Bool.false_eq_true, Bool.true_eq_false, le_0, le_1, le_2, le_3, le_4, ic_lst, endE, Option.map_some, Option.bind_some, c]
  rfl
theorem p9 {o : List Rat} {m : Nat} (ho : ∀ q ∈ o, od q) (lo : o.length = m) (h0 : 0 < m) (hm : m ≤ 4) (h2 : 2 ≤ m) : run P.C P.sub (callF P 19) t9 [s0, s1, s2, s3, .u, .d (frt o), .d (fr (Wh o)), .d (frs (fa o)), .d (frs (fa o)), s9, s10, s11, s12, s13, s14, s15, s16, s17, .u, .u, .u, .u, .u, .u, .u, .u, .u, .u] = .ok (.nx, [s0, s1, s2, s3, .u, .d (frt o), .d (fr (Wh o)), .d (frs (fa o)), .d (frs (fa o)), s9, s10, s11, s12, s13, s14, s15, s16, s17, .u, .u, .u, .u, .u, .u, .u, .u, .u, .u]) := by
  have hL := line_v
  have ne : o ≠ [] := fun e => by rw [e] at lo; simp at lo; omega
  have wp := Wh_pos (fun q hq => od_pos (ho q hq)) ne
  have ws := Wh_sz (fun q hq => (ho q hq).1) (by omega)
  have c1 : callF P 19 8 [.d (frt o)] = _ := w_isodds 16 ho (by omega)
  have c2 : callF P 19 9 [.d (frt o)] = _ := w_round 14 (z := frt o) o ho (by omega) rfl
  have c3 : callF P 19 29 [.d (frs (fa o))] = _ := sumL 15 (i := 35) (z := frs (fa o)) (fa o) (fun q hq => (fa_od ho lo h0 hm q hq).1) (by rw [fa_len]; omega) rfl
  rw [rsum_fa (by grind)] at c3
  have i : isiD (frs (fa o)) .list = true := rfl
  unfold t9
  simp only [it_l, it_t, rs_cons, rs_nil, r_asg, r_asg2, r_par2, r_aug, r_own, r_ownC, r_app, r_setP, r_ifs, r_for, r_fgt, r_ret, r_retD, r_retO, r_mv, r_ex, r_brk, r_cont, r_pass, x_v, x_fz, x_int, x_str, x_bl, x_non, x_neg, x_bin, x_cmp, x_chain, x_bop, x_not, x_ite, x_ix, x_sl, xo_no, xo_so, x_tup, x_lst, x_call, x_blt, x_isi, x_mth, x_ixP, x_lenP, x_spc, x_srtK, x_inP, t_inP, r_ownE, r_rem, r_ext, r_augP, r_parL, xs_nil, xs_cons, t_cmp, t_v, t_not, t_bop, t_ite, t_chain, t_isi, t_call, t_gq, t_bl, t_ix, t_bin, t_blt, i_of, n_range1, n_range2, i_zip, i_enum, i_enumz, xc_no, xc_so, fl_nil, fl_cons, bt_n, bt_2, bt_3, wipeE, keepS, backE, ok_bind, ofO_some, datO, List.getElem?_cons_zero, List.getElem?_cons_succ, List.set_cons_zero, List.set_cons_succ, List.map_cons, List.map_nil, dv_add, dv_sub, dv_mul, dv_fdiv, dv_mod, dv_pow, a_int, s_int, d_int, c_le, c_lt, c_gt, c_ge, c_eq, c_ne, e_int, tr_bool, tr_int, tr_none, s_bool, b_bool, b_abs, ip_int, ip_sub, if_true, if_false, eq_self, Bool.not_true, Bool.not_false, Bool.false_eq_true, Bool.true_eq_false, le_0, le_1, le_2, le_3, le_4, ic_lst, endE, Option.map_some, Option.bind_some, c1, c_inB, decide_true, c2, eq_fr, i, eq_frs', c3, fr_1]
theorem p10 {o : List Rat} {m : Nat} (ho : ∀ q ∈ o, od q) (lo : o.length = m) (h0 : 0 < m) (hm : m ≤ 4) : run P.C P.sub (callF P 19) t10 [s0, s1, s2, s3, .u, .d (frt o), .d (fr (Wh o)), .d (frs (fa o)), s8, s9, s10, s11, s12, s13, s14, s15, s16, s17, .u, .u, .u, .u, .u, .u, .u, .u, .u, .u] = .ok (.nx, [s0, s1, s2, s3, .u, .d (frt o), .d (fr (Wh o)), .d (frs (fa o)), s8, s9, s10, s11, s12, s13, s14, s15, s16, s17, .u, .u, .u, .u, .u, .u, .u, .u, .u, .u]) := by
  have hL := line_v
  have ne : o ≠ [] := fun e => by rw [e] at lo; simp at lo; omega
  have wp := Wh_pos (fun q hq => od_pos (ho q hq)) ne
  have ws := Wh_sz (fun q hq => (ho q hq).1) (by omega)
  have hf := fa_od ho lo h0 hm
  have c1 : callF P 19 11 [.d (frs (fa o))] = _ := w_fodds 15 (i := 35) (fa o) (fun q hq => ⟨(hf q hq).1, by have := (hf q hq).2; grind⟩) (by omega) (by rw [fa_len]; omega)
  have c2 : callF P 19 12 [.d (frt o)] = .ok (.d (fr (1 - (Wh o)⁻¹)), none) := w_gain 13 (z := frt o) o ho ne (by omega) rfl
  have c3 : callF P 19 27 [.d (fr 1), .d (fr (-(Wh o)⁻¹))] = _ := plusL 16 sz1 (sz_neg (sz_inv ws)) (by omega)
  rw [← Rat.sub_eq_add_neg] at c3
  have la := lc_map (C := P.C) (fn := callF P 19) (σ := [s0, s1, s2, s3, .u, .d (frt o), .d (fr (Wh o)), .d (frs (fa o)), s8, s9, s10, s11, s12, s13, s14, s15, s16, s17, .u, .u, .u, .u, .u, .u, .u, .u, .u, .u]) (σ1 := [s0, s1, s2, s3, .u, .d (frt o), .d (fr (Wh o)), .d (frs (fa o)), s8, s9, s10, s11, s12, s13, s14, s15, s16, s17, .u, .u, .u, .u, .u, .u, .u, .u, .u, .u]) (elt := .call 30 [(.v 18)]) (tg := .n 18) (it := .of (.v 7)) (own := [18]) (l := fa o) (em := fr) (g := fun q => fr (inv q)) (by simp only [it_l, it_t, rs_cons, rs_nil, r_asg, r_asg2, r_par2, r_aug, r_own, r_ownC, r_app, r_setP, r_ifs, r_for, r_fgt, r_ret, r_retD, r_retO, r_mv, r_ex, r_brk, r_cont, r_pass, x_v, x_fz, x_int, x_str, x_bl, x_non, x_neg, x_bin, x_cmp, x_chain, x_bop, x_not, x_ite, x_ix, x_sl, xo_no, xo_so, x_tup, x_lst, x_call, x_blt, x_isi, x_mth, x_ixP, x_lenP, x_spc, x_srtK, x_inP, t_inP, r_ownE, r_rem, r_ext, r_augP, r_parL, xs_nil, xs_cons, t_cmp, t_v, t_not, t_bop, t_ite, t_chain, t_isi, t_call, t_gq, t_bl, t_ix, t_bin, t_blt, i_of, n_range1, n_range2, i_zip, i_enum, i_enumz, xc_no, xc_so, fl_nil, fl_cons, bt_n, bt_2, bt_3, wipeE, keepS, backE, ok_bind, ofO_some, datO, List.getElem?_cons_zero, List.getElem?_cons_succ, List.set_cons_zero, List.set_cons_succ, List.map_cons, List.map_nil, dv_add, dv_sub, dv_mul, dv_fdiv, dv_mod, dv_pow, a_int, s_int, d_int, c_le, c_lt, c_gt, c_ge, c_eq, c_ne, e_int, tr_bool, tr_int, tr_none, s_bool, b_bool, b_abs, ip_int, ip_sub, if_true, if_false, eq_self, Bool.not_true, Bool.not_false, Bool.false_eq_true, Bool.true_eq_false, le_0, le_1, le_2, le_3, le_4, ic_lst, endE, Option.map_some, Option.bind_some, it_frs]) (by rw [fa_len]; omega) (fun q hq => by
      have c : callF P 19 30 [.d (fr q)] = _ := turned 18 (hf q hq).2
      simp only [it_l, it_t, rs_cons, rs_nil, r_asg, r_asg2, r_par2, r_aug, r_own, r_ownC, r_app, r_setP, r_ifs, r_for, r_fgt, r_ret, r_retD, r_retO, r_mv, r_ex, r_brk, r_cont, r_pass, x_v, x_fz, x_int, x_str, x_bl, x_non, x_neg, x_bin, x_cmp, x_chain, x_bop, x_not, x_ite, x_ix, x_sl, xo_no, xo_so, x_tup, x_lst, x_call, x_blt, x_isi, x_mth, x_ixP, x_lenP, x_spc, x_srtK, x_inP, t_inP, r_ownE, r_rem, r_ext, r_augP, r_parL, xs_nil, xs_cons, t_cmp, t_v, t_not, t_bop, t_ite, t_chain, t_isi, t_call, t_gq, t_bl, t_ix, t_bin, t_blt, i_of, n_range1, n_range2, i_zip, i_enum, i_enumz, xc_no, xc_so, fl_nil, fl_cons, bt_n, bt_2, bt_3, wipeE, keepS, backE, ok_bind, ofO_some, datO, List.getElem?_cons_zero, List.getElem?_cons_succ, List.set_cons_zero, List.set_cons_succ, List.map_cons, List.map_nil, dv_add, dv_sub, dv_mul, dv_fdiv, dv_mod, dv_pow, a_int, s_int, d_int, c_le, c_lt, c_gt, c_ge, c_eq, c_ne, e_int, tr_bool, tr_int, tr_none, s_bool, b_bool, b_abs, ip_int, ip_sub, if_true, if_false, eq_self, Bool.not_true, Bool.not_false, Bool.false_eq_true, Bool.true_eq_false, le_0, le_1, le_2, le_3, le_4, ic_lst, endE, Option.map_some, Option.bind_some, c]
      rfl)
  have nn := fr_ninv wp
  unfold t10
  simp only [it_l, it_t, rs_cons, rs_nil, r_asg, r_asg2, r_par2, r_aug, r_own, r_ownC, r_app, r_setP, r_ifs, r_for, r_fgt, r_ret, r_retD, r_retO, r_mv, r_ex, r_brk, r_cont, r_pass, x_v, x_fz, x_int, x_str, x_bl, x_non, x_neg, x_bin, x_cmp, x_chain, x_bop, x_not, x_ite, x_ix, x_sl, xo_no, xo_so, x_tup, x_lst, x_call, x_blt, x_isi, x_mth, x_ixP, x_lenP, x_spc, x_srtK, x_inP, t_inP, r_ownE, r_rem, r_ext, r_augP, r_parL, xs_nil, xs_cons, t_cmp, t_v, t_not, t_bop, t_ite, t_chain, t_isi, t_call, t_gq, t_bl, t_ix, t_bin, t_blt, i_of, n_range1, n_range2, i_zip, i_enum, i_enumz, xc_no, xc_so, fl_nil, fl_cons, bt_n, bt_2, bt_3, wipeE, keepS, backE, ok_bind, ofO_some, datO, List.getElem?_cons_zero, List.getElem?_cons_succ, List.set_cons_zero, List.set_cons_succ, List.map_cons, List.map_nil, dv_add, dv_sub, dv_mul, dv_fdiv, dv_mod, dv_pow, a_int, s_int, d_int, c_le, c_lt, c_gt, c_ge, c_eq, c_ne, e_int, tr_bool, tr_int, tr_none, s_bool, b_bool, b_abs, ip_int, ip_sub, if_true, if_false, eq_self, Bool.not_true, Bool.not_false, Bool.false_eq_true, Bool.true_eq_false, le_0, le_1, le_2, le_3, le_4, ic_lst, endE, Option.map_some, Option.bind_some, c1, la, t_list, frt_map, eq_frt, decide_true, c2, ix_fr0, ix_fr1, nn, fr_1, c3, eq_fr]
theorem p11  : run P.C P.sub (callF P 19) t11 [s0, s1, s2, s3, .u, s5, s6, s7, s8, s9, s10, s11, s12, s13, s14, s15, s16, s17, .u, .u, .u, .u, .u, .u, .u, .u, .u, .u] = .ok (.nx, [s0, s1, s2, s3, .u, s5, s6, s7, s8, .m false (mL pr []), s10, s11, s12, s13, s14, s15, s16, s17, .u, .u, .u, .u, .u, .u, .u, .u, .u, .u]) := by
  unfold t11
  simp only [it_l, it_t, rs_cons, rs_nil, r_asg, r_asg2, r_par2, r_aug, r_own, r_ownC, r_app, r_setP, r_ifs, r_for, r_fgt, r_ret, r_retD, r_retO, r_mv, r_ex, r_brk, r_cont, r_pass, x_v, x_fz, x_int, x_str, x_bl, x_non, x_neg, x_bin, x_cmp, x_chain, x_bop, x_not, x_ite, x_ix, x_sl, xo_no, xo_so, x_tup, x_lst, x_call, x_blt, x_isi, x_mth, x_ixP, x_lenP, x_spc, x_srtK, x_inP, t_inP, r_ownE, r_rem, r_ext, r_augP, r_parL, xs_nil, xs_cons, t_cmp, t_v, t_not, t_bop, t_ite, t_chain, t_isi, t_call, t_gq, t_bl, t_ix, t_bin, t_blt, i_of, n_range1, n_range2, i_zip, i_enum, i_enumz, xc_no, xc_so, fl_nil, fl_cons, bt_n, bt_2, bt_3, wipeE, keepS, backE, ok_bind, ofO_some, datO, List.getElem?_cons_zero, List.getElem?_cons_succ, List.set_cons_zero, List.set_cons_succ, List.map_cons, List.map_nil, dv_add, dv_sub, dv_mul, dv_fdiv, dv_mod, dv_pow, a_int, s_int, d_int, c_le, c_lt, c_gt, c_ge, c_eq, c_ne, e_int, tr_bool, tr_int, tr_none, s_bool, b_bool, b_abs, ip_int, ip_sub, if_true, if_false, eq_self, Bool.not_true, Bool.not_false, Bool.false_eq_true, Bool.true_eq_false, le_0, le_1, le_2, le_3, le_4, ic_lst, endE, Option.map_some, Option.bind_some, mL_nil pr]
theorem p12  : run P.C P.sub (callF P 19) t12 [s0, s1, s2, s3, .u, s5, s6, s7, s8, s9, s10, s11, s12, s13, s14, s15, s16, s17, .u, .u, .u, .u, .u, .u, .u, .u, .u, .u] = .ok (.nx, [s0, s1, s2, s3, .u, s5, s6, s7, s8, s9, .u, s11, s12, s13, s14, s15, s16, s17, .u, .u, .u, .u, .u, .u, .u, .u, .u, .u]) := by
  unfold t12
  simp only [it_l, it_t, rs_cons, rs_nil, r_asg, r_asg2, r_par2, r_aug, r_own, r_ownC, r_app, r_setP, r_ifs, r_for, r_fgt, r_ret, r_retD, r_retO, r_mv, r_ex, r_brk, r_cont, r_pass, x_v, x_fz, x_int, x_str, x_bl, x_non, x_neg, x_bin, x_cmp, x_chain, x_bop, x_not, x_ite, x_ix, x_sl, xo_no, xo_so, x_tup, x_lst, x_call, x_blt, x_isi, x_mth, x_ixP, x_lenP, x_spc, x_srtK, x_inP, t_inP, r_ownE, r_rem, r_ext, r_augP, r_parL, xs_nil, xs_cons, t_cmp, t_v, t_not, t_bop, t_ite, t_chain, t_isi, t_call, t_gq, t_bl, t_ix, t_bin, t_blt, i_of, n_range1, n_range2, i_zip, i_enum, i_enumz, xc_no, xc_so, fl_nil, fl_cons, bt_n, bt_2, bt_3, wipeE, keepS, backE, ok_bind, ofO_some, datO, List.getElem?_cons_zero, List.getElem?_cons_succ, List.set_cons_zero, List.set_cons_succ, List.map_cons, List.map_nil, dv_add, dv_sub, dv_mul, dv_fdiv, dv_mod, dv_pow, a_int, s_int, d_int, c_le, c_lt, c_gt, c_ge, c_eq, c_ne, e_int, tr_bool, tr_int, tr_none, s_bool, b_bool, b_abs, ip_int, ip_sub, if_true, if_false, eq_self, Bool.not_true, Bool.not_false, Bool.false_eq_true, Bool.true_eq_false, le_0, le_1, le_2, le_3, le_4, ic_lst, endE, Option.map_some, Option.bind_some]
theorem turn13 {bs : List (List Rat)} {m : Nat} (h : okB bs m) {k : Nat} (hk : k < m) (S3 : Slot) (hS : S3 = .m false (mL frt bs) ∨ S3 = .d (bks bs)) (acc : List (Rat × Nat)) (ha : acc.length < 100) :
    ((ofO (bindT (.n 4) (.int (k : Int)) [s0, s1, .d (.int (m : Nat)), S3, .u, s5, s6, s7, s8, .m false (mL pr acc), .u, s11, s12, s13, s14, s15, s16, s17, .u, .u, .u, .u, .u, .u, .u, .u, .u, .u])).bind fun σ1 => runs P.C P.sub (callF P 19) i13 σ1) = .ok (.nx, [s0, s1, .d (.int (m : Nat)), .d (bks bs), .u, s5, s6, s7, s8, .m false (mL pr (acc ++ [((col bs k).getD (am (col bs k)) 0, am (col bs k))])), .u, s11, s12, s13, s14, s15, s16, s17, .u, .u, .u, .u, .u, .u, .u, .u, .u, .u]) := by
  have hL := line_v
  have hf := h.few
  have hc := h.col hk
  have hlen := col_len (bs := bs) (k := k)
  have hn0 : 0 < (col bs k).length := by rw [hlen]; exact h.ne
  have fz : (sm P.C (callF P 19) (.fz 3)).v [s0, s1, .d (.int (m : Nat)), S3, .d (.int (k : Int)), s5, s6, s7, s8, .m false (mL pr acc), .u, s11, s12, s13, s14, s15, s16, s17, .u, .u, .u, .u, .u, .u, .u, .u, .u, .u] = .ok (bks bs, [s0, s1, .d (.int (m : Nat)), .d (bks bs), .d (.int (k : Int)), s5, s6, s7, s8, .m false (mL pr acc), .u, s11, s12, s13, s14, s15, s16, s17, .u, .u, .u, .u, .u, .u, .u, .u, .u, .u]) := by
    rcases hS with rfl | rfl
    · simp only [it_l, it_t, rs_cons, rs_nil, r_asg, r_asg2, r_par2, r_aug, r_own, r_ownC, r_app, r_setP, r_ifs, r_for, r_fgt, r_ret, r_retD, r_retO, r_mv, r_ex, r_brk, r_cont, r_pass, x_v, x_fz, x_int, x_str, x_bl, x_non, x_neg, x_bin, x_cmp, x_chain, x_bop, x_not, x_ite, x_ix, x_sl, xo_no, xo_so, x_tup, x_lst, x_call, x_blt, x_isi, x_mth, x_ixP, x_lenP, x_spc, x_srtK, x_inP, t_inP, r_ownE, r_rem, r_ext, r_augP, r_parL, xs_nil, xs_cons, t_cmp, t_v, t_not, t_bop, t_ite, t_chain, t_isi, t_call, t_gq, t_bl, t_ix, t_bin, t_blt, i_of, n_range1, n_range2, i_zip, i_enum, i_enumz, xc_no, xc_so, fl_nil, fl_cons, bt_n, bt_2, bt_3, wipeE, keepS, backE, ok_bind, ofO_some, datO, List.getElem?_cons_zero, List.getElem?_cons_succ, List.set_cons_zero, List.set_cons_succ, List.map_cons, List.map_nil, dv_add, dv_sub, dv_mul, dv_fdiv, dv_mod, dv_pow, a_int, s_int, d_int, c_le, c_lt, c_gt, c_ge, c_eq, c_ne, e_int, tr_bool, tr_int, tr_none, s_bool, b_bool, b_abs, ip_int, ip_sub, if_true, if_false, eq_self, Bool.not_true, Bool.not_false, Bool.false_eq_true, Bool.true_eq_false, le_0, le_1, le_2, le_3, le_4, ic_lst, endE, Option.map_some, Option.bind_some, x_fz, mL_toD]
      rfl
    · simp only [it_l, it_t, rs_cons, rs_nil, r_asg, r_asg2, r_par2, r_aug, r_own, r_ownC, r_app, r_setP, r_ifs, r_for, r_fgt, r_ret, r_retD, r_retO, r_mv, r_ex, r_brk, r_cont, r_pass, x_v, x_fz, x_int, x_str, x_bl, x_non, x_neg, x_bin, x_cmp, x_chain, x_bop, x_not, x_ite, x_ix, x_sl, xo_no, xo_so, x_tup, x_lst, x_call, x_blt, x_isi, x_mth, x_ixP, x_lenP, x_spc, x_srtK, x_inP, t_inP, r_ownE, r_rem, r_ext, r_augP, r_parL, xs_nil, xs_cons, t_cmp, t_v, t_not, t_bop, t_ite, t_chain, t_isi, t_call, t_gq, t_bl, t_ix, t_bin, t_blt, i_of, n_range1, n_range2, i_zip, i_enum, i_enumz, xc_no, xc_so, fl_nil, fl_cons, bt_n, bt_2, bt_3, wipeE, keepS, backE, ok_bind, ofO_some, datO, List.getElem?_cons_zero, List.getElem?_cons_succ, List.set_cons_zero, List.set_cons_succ, List.map_cons, List.map_nil, dv_add, dv_sub, dv_mul, dv_fdiv, dv_mod, dv_pow, a_int, s_int, d_int, c_le, c_lt, c_gt, c_ge, c_eq, c_ne, e_int, tr_bool, tr_int, tr_none, s_bool, b_bool, b_abs, ip_int, ip_sub, if_true, if_false, eq_self, Bool.not_true, Bool.not_false, Bool.false_eq_true, Bool.true_eq_false, le_0, le_1, le_2, le_3, le_4, ic_lst, endE, Option.map_some, Option.bind_some, x_fz]
  have la := lc_map (C := P.C) (fn := callF P 19) (σ := [s0, s1, .d (.int (m : Nat)), S3, .d (.int (k : Int)), s5, s6, s7, s8, .m false (mL pr acc), .u, s11, s12, s13, s14, s15, s16, s17, .u, .u, .u, .u, .u, .u, .u, .u, .u, .u]) (σ1 := [s0, s1, .d (.int (m : Nat)), .d (bks bs), .d (.int (k : Int)), s5, s6, s7, s8, .m false (mL pr acc), .u, s11, s12, s13, s14, s15, s16, s17, .u, .u, .u, .u, .u, .u, .u, .u, .u, .u]) (elt := .ix (.v 25) (.v 4)) (tg := .n 25) (it := .of (.fz 3)) (own := [25]) (l := bs) (em := frt) (g := fun b => fr (b.getD k 0)) (by simp only [it_l, it_t, rs_cons, rs_nil, r_asg, r_asg2, r_par2, r_aug, r_own, r_ownC, r_app, r_setP, r_ifs, r_for, r_fgt, r_ret, r_retD, r_retO, r_mv, r_ex, r_brk, r_cont, r_pass, x_v, x_fz, x_int, x_str, x_bl, x_non, x_neg, x_bin, x_cmp, x_chain, x_bop, x_not, x_ite, x_ix, x_sl, xo_no, xo_so, x_tup, x_lst, x_call, x_blt, x_isi, x_mth, x_ixP, x_lenP, x_spc, x_srtK, x_inP, t_inP, r_ownE, r_rem, r_ext, r_augP, r_parL, xs_nil, xs_cons, t_cmp, t_v, t_not, t_bop, t_ite, t_chain, t_isi, t_call, t_gq, t_bl, t_ix, t_bin, t_blt, i_of, n_range1, n_range2, i_zip, i_enum, i_enumz, xc_no, xc_so, fl_nil, fl_cons, bt_n, bt_2, bt_3, wipeE, keepS, backE, ok_bind, ofO_some, datO, List.getElem?_cons_zero, List.getElem?_cons_succ, List.set_cons_zero, List.set_cons_succ, List.map_cons, List.map_nil, dv_add, dv_sub, dv_mul, dv_fdiv, dv_mod, dv_pow, a_int, s_int, d_int, c_le, c_lt, c_gt, c_ge, c_eq, c_ne, e_int, tr_bool, tr_int, tr_none, s_bool, b_bool, b_abs, ip_int, ip_sub, if_true, if_false, eq_self, Bool.not_true, Bool.not_false, Bool.false_eq_true, Bool.true_eq_false, le_0, le_1, le_2, le_3, le_4, ic_lst, endE, Option.map_some, Option.bind_some, fz]; rfl) (by omega) (fun b hb => by
      have i := ix_frt b k (by rw [h.len b hb]; exact hk)
      simp only [it_l, it_t, rs_cons, rs_nil, r_asg, r_asg2, r_par2, r_aug, r_own, r_ownC, r_app, r_setP, r_ifs, r_for, r_fgt, r_ret, r_retD, r_retO, r_mv, r_ex, r_brk, r_cont, r_pass, x_v, x_fz, x_int, x_str, x_bl, x_non, x_neg, x_bin, x_cmp, x_chain, x_bop, x_not, x_ite, x_ix, x_sl, xo_no, xo_so, x_tup, x_lst, x_call, x_blt, x_isi, x_mth, x_ixP, x_lenP, x_spc, x_srtK, x_inP, t_inP, r_ownE, r_rem, r_ext, r_augP, r_parL, xs_nil, xs_cons, t_cmp, t_v, t_not, t_bop, t_ite, t_chain, t_isi, t_call, t_gq, t_bl, t_ix, t_bin, t_blt, i_of, n_range1, n_range2, i_zip, i_enum, i_enumz, xc_no, xc_so, fl_nil, fl_cons, bt_n, bt_2, bt_3, wipeE, keepS, backE, ok_bind, ofO_some, datO, List.getElem?_cons_zero, List.getElem?_cons_succ, List.set_cons_zero, List.set_cons_succ, List.map_cons, List.map_nil, dv_add, dv_sub, dv_mul, dv_fdiv, dv_mod, dv_pow, a_int, s_int, d_int, c_le, c_lt, c_gt, c_ge, c_eq, c_ne, e_int, tr_bool, tr_int, tr_none, s_bool, b_bool, b_abs, ip_int, ip_sub, if_true, if_false, eq_self, Bool.not_true, Bool.not_false, Bool.false_eq_true, Bool.true_eq_false, le_0, le_1, le_2, le_3, le_4, ic_lst, endE, Option.map_some, Option.bind_some, i])
  have e1 : (bs.map fun b => b.getD k 0) = col bs k := rfl
  have lb := fun (j : Nat) (hj : j < (col bs k).length) => lc_map (C := P.C) (fn := callF P 19) (σ := [s0, s1, .d (.int (m : Nat)), .d (bks bs), .d (.int (k : Int)), s5, s6, s7, s8, .m false (mL pr acc), .u, s11, s12, s13, s14, s15, s16, s17, .u, .u, .d (.int (j : Int)), .d (frs (col bs k)), .u, .u, .u, .u, .u, .u]) (σ1 := [s0, s1, .d (.int (m : Nat)), .d (bks bs), .d (.int (k : Int)), s5, s6, s7, s8, .m false (mL pr acc), .u, s11, s12, s13, s14, s15, s16, s17, .u, .u, .d (.int (j : Int)), .d (frs (col bs k)), .u, .u, .u, .u, .u, .u]) (elt := .call 31 [(.ix (.v 21) (.v 20)), (.v 27)]) (tg := .n 27) (it := .of (.v 21)) (own := [27]) (l := col bs k) (em := fr) (g := fun q => .bool (decide ((col bs k).getD j 0 < q))) (by simp only [it_l, it_t, rs_cons, rs_nil, r_asg, r_asg2, r_par2, r_aug, r_own, r_ownC, r_app, r_setP, r_ifs, r_for, r_fgt, r_ret, r_retD, r_retO, r_mv, r_ex, r_brk, r_cont, r_pass, x_v, x_fz, x_int, x_str, x_bl, x_non, x_neg, x_bin, x_cmp, x_chain, x_bop, x_not, x_ite, x_ix, x_sl, xo_no, xo_so, x_tup, x_lst, x_call, x_blt, x_isi, x_mth, x_ixP, x_lenP, x_spc, x_srtK, x_inP, t_inP, r_ownE, r_rem, r_ext, r_augP, r_parL, xs_nil, xs_cons, t_cmp, t_v, t_not, t_bop, t_ite, t_chain, t_isi, t_call, t_gq, t_bl, t_ix, t_bin, t_blt, i_of, n_range1, n_range2, i_zip, i_enum, i_enumz, xc_no, xc_so, fl_nil, fl_cons, bt_n, bt_2, bt_3, wipeE, keepS, backE, ok_bind, ofO_some, datO, List.getElem?_cons_zero, List.getElem?_cons_succ, List.set_cons_zero, List.set_cons_succ, List.map_cons, List.map_nil, dv_add, dv_sub, dv_mul, dv_fdiv, dv_mod, dv_pow, a_int, s_int, d_int, c_le, c_lt, c_gt, c_ge, c_eq, c_ne, e_int, tr_bool, tr_int, tr_none, s_bool, b_bool, b_abs, ip_int, ip_sub, if_true, if_false, eq_self, Bool.not_true, Bool.not_false, Bool.false_eq_true, Bool.true_eq_false, le_0, le_1, le_2, le_3, le_4, ic_lst, endE, Option.map_some, Option.bind_some, it_frs]) (by rw [hlen]; omega) (fun q hq => by
      have i := ix_frs (col bs k) j hj
      have c : callF P 19 31 [.d (fr ((col bs k).getD j 0)), .d (fr q)] = _ := lessL 18 (i := 6) (by omega) (hc _ (getD_mem hj)).1 (hc q hq).1
      simp only [it_l, it_t, rs_cons, rs_nil, r_asg, r_asg2, r_par2, r_aug, r_own, r_ownC, r_app, r_setP, r_ifs, r_for, r_fgt, r_ret, r_retD, r_retO, r_mv, r_ex, r_brk, r_cont, r_pass, x_v, x_fz, x_int, x_str, x_bl, x_non, x_neg, x_bin, x_cmp, x_chain, x_bop, x_not, x_ite, x_ix, x_sl, xo_no, xo_so, x_tup, x_lst, x_call, x_blt, x_isi, x_mth, x_ixP, x_lenP, x_spc, x_srtK, x_inP, t_inP, r_ownE, r_rem, r_ext, r_augP, r_parL, xs_nil, xs_cons, t_cmp, t_v, t_not, t_bop, t_ite, t_chain, t_isi, t_call, t_gq, t_bl, t_ix, t_bin, t_blt, i_of, n_range1, n_range2, i_zip, i_enum, i_enumz, xc_no, xc_so, fl_nil, fl_cons, bt_n, bt_2, bt_3, wipeE, keepS, backE, ok_bind, ofO_some, datO, List.getElem?_cons_zero, List.getElem?_cons_succ, List.set_cons_zero, List.set_cons_succ, List.map_cons, List.map_nil, dv_add, dv_sub, dv_mul, dv_fdiv, dv_mod, dv_pow, a_int, s_int, d_int, c_le, c_lt, c_gt, c_ge, c_eq, c_ne, e_int, tr_bool, tr_int, tr_none, s_bool, b_bool, b_abs, ip_int, ip_sub, if_true, if_false, eq_self, Bool.not_true, Bool.not_false, Bool.false_eq_true, Bool.true_eq_false, le_0, le_1, le_2, le_3, le_4, ic_lst, endE, Option.map_some, Option.bind_some, i, c])
  have ln : bltD .len [frs (col bs k)] = some (.int ((col bs k).length : Nat)) := len_frs _
  have r0 := rO_0 (col bs k).length (by omega)
  have lf := lc_flt (C := P.C) (fn := callF P 19) (σ := [s0, s1, .d (.int (m : Nat)), .d (bks bs), .d (.int (k : Int)), s5, s6, s7, s8, .m false (mL pr acc), .u, s11, s12, s13, s14, s15, s16, s17, .u, .u, .u, .d (frs (col bs k)), .u, .u, .u, .u, .u, .u]) (σ1 := [s0, s1, .d (.int (m : Nat)), .d (bks bs), .d (.int (k : Int)), s5, s6, s7, s8, .m false (mL pr acc), .u, s11, s12, s13, s14, s15, s16, s17, .u, .u, .u, .d (frs (col bs k)), .u, .u, .u, .u, .u, .u]) (elt := .v 20) (tg := .n 20) (it := .range1 (.blt .len [(.v 21)])) (cs := .so (.not (.blt .any [(.lc (.call 31 [(.ix (.v 21) (.v 20)), (.v 27)]) (.n 27) (.of (.v 21)) .no [27])]))) (own := [20]) (l := List.range (col bs k).length) (em := fun j : Nat => PyData.int (j : Int)) (g := fun j : Nat => PyData.int (j : Int)) (p := fun j => !((col bs k).any fun q => decide ((col bs k).getD j 0 < q))) (by simp only [it_l, it_t, rs_cons, rs_nil, r_asg, r_asg2, r_par2, r_aug, r_own, r_ownC, r_app, r_setP, r_ifs, r_for, r_fgt, r_ret, r_retD, r_retO, r_mv, r_ex, r_brk, r_cont, r_pass, x_v, x_fz, x_int, x_str, x_bl, x_non, x_neg, x_bin, x_cmp, x_chain, x_bop, x_not, x_ite, x_ix, x_sl, xo_no, xo_so, x_tup, x_lst, x_call, x_blt, x_isi, x_mth, x_ixP, x_lenP, x_spc, x_srtK, x_inP, t_inP, r_ownE, r_rem, r_ext, r_augP, r_parL, xs_nil, xs_cons, t_cmp, t_v, t_not, t_bop, t_ite, t_chain, t_isi, t_call, t_gq, t_bl, t_ix, t_bin, t_blt, i_of, n_range1, n_range2, i_zip, i_enum, i_enumz, xc_no, xc_so, fl_nil, fl_cons, bt_n, bt_2, bt_3, wipeE, keepS, backE, ok_bind, ofO_some, datO, List.getElem?_cons_zero, List.getElem?_cons_succ, List.set_cons_zero, List.set_cons_succ, List.map_cons, List.map_nil, dv_add, dv_sub, dv_mul, dv_fdiv, dv_mod, dv_pow, a_int, s_int, d_int, c_le, c_lt, c_gt, c_ge, c_eq, c_ne, e_int, tr_bool, tr_int, tr_none, s_bool, b_bool, b_abs, ip_int, ip_sub, if_true, if_false, eq_self, Bool.not_true, Bool.not_false, Bool.false_eq_true, Bool.true_eq_false, le_0, le_1, le_2, le_3, le_4, ic_lst, endE, Option.map_some, Option.bind_some, ln, r0]) (by rw [List.length_range, hlen]; omega) (fun j hj => by
      have hj := List.mem_range.mp hj
      have lb := lb j hj
      simp only [it_l, it_t, rs_cons, rs_nil, r_asg, r_asg2, r_par2, r_aug, r_own, r_ownC, r_app, r_setP, r_ifs, r_for, r_fgt, r_ret, r_retD, r_retO, r_mv, r_ex, r_brk, r_cont, r_pass, x_v, x_fz, x_int, x_str, x_bl, x_non, x_neg, x_bin, x_cmp, x_chain, x_bop, x_not, x_ite, x_ix, x_sl, xo_no, xo_so, x_tup, x_lst, x_call, x_blt, x_isi, x_mth, x_ixP, x_lenP, x_spc, x_srtK, x_inP, t_inP, r_ownE, r_rem, r_ext, r_augP, r_parL, xs_nil, xs_cons, t_cmp, t_v, t_not, t_bop, t_ite, t_chain, t_isi, t_call, t_gq, t_bl, t_ix, t_bin, t_blt, i_of, n_range1, n_range2, i_zip, i_enum, i_enumz, xc_no, xc_so, fl_nil, fl_cons, bt_n, bt_2, bt_3, wipeE, keepS, backE, ok_bind, ofO_some, datO, List.getElem?_cons_zero, List.getElem?_cons_succ, List.set_cons_zero, List.set_cons_succ, List.map_cons, List.map_nil, dv_add, dv_sub, dv_mul, dv_fdiv, dv_mod, dv_pow, a_int, s_int, d_int, c_le, c_lt, c_gt, c_ge, c_eq, c_ne, e_int, tr_bool, tr_int, tr_none, s_bool, b_bool, b_abs, ip_int, ip_sub, if_true, if_false, eq_self, Bool.not_true, Bool.not_false, Bool.false_eq_true, Bool.true_eq_false, le_0, le_1, le_2, le_3, le_4, ic_lst, endE, Option.map_some, Option.bind_some, lb, b_any, tr_bl]
      cases (col bs k).any fun q => decide ((col bs k).getD j 0 < q) <;> simp only [it_l, it_t, rs_cons, rs_nil, r_asg, r_asg2, r_par2, r_aug, r_own, r_ownC, r_app, r_setP, r_ifs, r_for, r_fgt, r_ret, r_retD, r_retO, r_mv, r_ex, r_brk, r_cont, r_pass, x_v, x_fz, x_int, x_str, x_bl, x_non, x_neg, x_bin, x_cmp, x_chain, x_bop, x_not, x_ite, x_ix, x_sl, xo_no, xo_so, x_tup, x_lst, x_call, x_blt, x_isi, x_mth, x_ixP, x_lenP, x_spc, x_srtK, x_inP, t_inP, r_ownE, r_rem, r_ext, r_augP, r_parL, xs_nil, xs_cons, t_cmp, t_v, t_not, t_bop, t_ite, t_chain, t_isi, t_call, t_gq, t_bl, t_ix, t_bin, t_blt, i_of, n_range1, n_range2, i_zip, i_enum, i_enumz, xc_no, xc_so, fl_nil, fl_cons, bt_n, bt_2, bt_3, wipeE, keepS, backE, ok_bind, ofO_some, datO, List.getElem?_cons_zero, List.getElem?_cons_succ, List.set_cons_zero, List.set_cons_succ, List.map_cons, List.map_nil, dv_add, dv_sub, dv_mul, dv_fdiv, dv_mod, dv_pow, a_int, s_int, d_int, c_le, c_lt, c_gt, c_ge, c_eq, c_ne, e_int, tr_bool, tr_int, tr_none, s_bool, b_bool, b_abs, ip_int, ip_sub, if_true, if_false, eq_self, Bool.not_true, Bool.not_false, Bool.false_eq_true, Bool.true_eq_false, le_0, le_1, le_2, le_3, le_4, ic_lst, endE, Option.map_some, Option.bind_some])
  obtain ⟨tl, et⟩ := am_law hn0
  rw [et, List.map_cons] at lf
  have ht := (am_top hn0).1
  have i2 := ix_frs (col bs k) _ ht
  have ap := app_m (C := P.C) (sub := P.sub) (fn := callF P 19) (em := pr) (σ := [s0, s1, .d (.int (m : Nat)), .d (bks bs), .d (.int (k : Int)), s5, s6, s7, s8, .m false (mL pr acc), .d (.int (am (col bs k) : Nat)), s11, s12, s13, s14, s15, s16, s17, .u, .u, .u, .d (frs (col bs k)), .u, .u, .u, .u, .u, .u]) (σ' := [s0, s1, .d (.int (m : Nat)), .d (bks bs), .d (.int (k : Int)), s5, s6, s7, s8, .m false (mL pr acc), .d (.int (am (col bs k) : Nat)), s11, s12, s13, s14, s15, s16, s17, .u, .u, .u, .d (frs (col bs k)), .u, .u, .u, .u, .u, .u]) (j := 9) (e := .tup [(.ix (.v 21) (.v 10)), (.v 10)]) (l := acc) (x := ((col bs k).getD (am (col bs k)) 0, am (col bs k))) rfl (by simp only [it_l, it_t, rs_cons, rs_nil, r_asg, r_asg2, r_par2, r_aug, r_own, r_ownC, r_app, r_setP, r_ifs, r_for, r_fgt, r_ret, r_retD, r_retO, r_mv, r_ex, r_brk, r_cont, r_pass, x_v, x_fz, x_int, x_str, x_bl, x_non, x_neg, x_bin, x_cmp, x_chain, x_bop, x_not, x_ite, x_ix, x_sl, xo_no, xo_so, x_tup, x_lst, x_call, x_blt, x_isi, x_mth, x_ixP, x_lenP, x_spc, x_srtK, x_inP, t_inP, r_ownE, r_rem, r_ext, r_augP, r_parL, xs_nil, xs_cons, t_cmp, t_v, t_not, t_bop, t_ite, t_chain, t_isi, t_call, t_gq, t_bl, t_ix, t_bin, t_blt, i_of, n_range1, n_range2, i_zip, i_enum, i_enumz, xc_no, xc_so, fl_nil, fl_cons, bt_n, bt_2, bt_3, wipeE, keepS, backE, ok_bind, ofO_some, datO, List.getElem?_cons_zero, List.getElem?_cons_succ, List.set_cons_zero, List.set_cons_succ, List.map_cons, List.map_nil, dv_add, dv_sub, dv_mul, dv_fdiv, dv_mod, dv_pow, a_int, s_int, d_int, c_le, c_lt, c_gt, c_ge, c_eq, c_ne, e_int, tr_bool, tr_int, tr_none, s_bool, b_bool, b_abs, ip_int, ip_sub, if_true, if_false, eq_self, Bool.not_true, Bool.not_false, Bool.false_eq_true, Bool.true_eq_false, le_0, le_1, le_2, le_3, le_4, ic_lst, endE, Option.map_some, Option.bind_some, i2]; rfl) rfl (by omega)
  unfold i13
  simp only [it_l, it_t, rs_cons, rs_nil, r_asg, r_asg2, r_par2, r_aug, r_own, r_ownC, r_setP, r_ifs, r_for, r_fgt, r_ret, r_retD, r_retO, r_mv, r_ex, r_brk, r_cont, r_pass, x_v, x_fz, x_int, x_str, x_bl, x_non, x_neg, x_bin, x_cmp, x_chain, x_bop, x_not, x_ite, x_ix, x_sl, xo_no, xo_so, x_tup, x_lst, x_call, x_blt, x_isi, x_mth, x_ixP, x_lenP, x_spc, x_srtK, x_inP, t_inP, r_ownE, r_rem, r_ext, r_augP, r_parL, xs_nil, xs_cons, t_cmp, t_v, t_not, t_bop, t_ite, t_chain, t_isi, t_call, t_gq, t_bl, t_ix, t_bin, t_blt, i_of, n_range1, n_range2, i_zip, i_enum, i_enumz, xc_no, xc_so, fl_nil, fl_cons, bt_n, bt_2, bt_3, wipeE, keepS, backE, ok_bind, ofO_some, datO, List.getElem?_cons_zero, List.getElem?_cons_succ, List.set_cons_zero, List.set_cons_succ, List.map_cons, List.map_nil, dv_add, dv_sub, dv_mul, dv_fdiv, dv_mod, dv_pow, a_int, s_int, d_int, c_le, c_lt, c_gt, c_ge, c_eq, c_ne, e_int, tr_bool, tr_int, tr_none, s_bool, b_bool, b_abs, ip_int, ip_sub, if_true, if_false, eq_self, Bool.not_true, Bool.not_false, Bool.false_eq_true, Bool.true_eq_false, le_0, le_1, le_2, le_3, le_4, ic_lst, endE, Option.map_some, Option.bind_some,  la, frs_map, e1, lf, ix_cons0, ap]
theorem p13 {bs : List (List Rat)} {m : Nat} (h : okB bs m) : run P.C P.sub (callF P 19) t13 [s0, s1, .d (.int (m : Nat)), .m false (mL frt bs), .u, s5, s6, s7, s8, .m false (mL pr []), .u, s11, s12, s13, s14, s15, s16, s17, .u, .u, .u, .u, .u, .u, .u, .u, .u, .u] = .ok (.nx, [s0, s1, .d (.int (m : Nat)), .d (bks bs), .u, s5, s6, s7, s8, .m false (mL pr (bsts bs m)), .u, s11, s12, s13, s14, s15, s16, s17, .u, .u, .u, .u, .u, .u, .u, .u, .u, .u]) := by
  have h4 := h.m4
  obtain ⟨n, en⟩ : ∃ n, m = n + 1 := ⟨m - 1, by have := h.m0; omega⟩
  have f1 := turn13 (s0 := s0) (s1 := s1) (s5 := s5) (s6 := s6) (s7 := s7) (s8 := s8) (s11 := s11) (s12 := s12) (s13 := s13) (s14 := s14) (s15 := s15) (s16 := s16) (s17 := s17) h (k := 0) h.m0 (.m false (mL frt bs)) (.inl rfl) [] (by simp)
  have lp := forL_fold (b := fun x σ => (ofO (bindT (.n 4) x σ)).bind fun σ1 => runs P.C P.sub (callF P 19) i13 σ1) (em := fun j : Nat => PyData.int (j : Int)) (st := fun z : List (Rat × Nat) => [s0, s1, .d (.int (m : Nat)), .d (bks bs), .u, s5, s6, s7, s8, .m false (mL pr z), .u, s11, s12, s13, s14, s15, s16, s17, .u, .u, .u, .u, .u, .u, .u, .u, .u, .u]) (g := fun z o => z ++ [((col bs o).getD (am (col bs o)) 0, am (col bs o))]) (fun r z => (∀ k ∈ r, k < m) ∧ z.length + r.length ≤ 10) (List.range' 1 n) [((col bs 0).getD (am (col bs 0)) 0, am (col bs 0))] ⟨fun k hk => by have := List.mem_range'_1.mp hk; omega, by rw [List.length_range', List.length_singleton]; omega⟩ (fun k r z ⟨q1, q2⟩ => by
      rw [List.length_cons] at q2
      exact ⟨turn13 (s0 := s0) (s1 := s1) (s5 := s5) (s6 := s6) (s7 := s7) (s8 := s8) (s11 := s11) (s12 := s12) (s13 := s13) (s14 := s14) (s15 := s15) (s16 := s16) (s17 := s17) h (q1 k (List.mem_cons_self ..)) (.d (bks bs)) (.inr rfl) z (by omega), fun x hx => q1 x (List.mem_cons_of_mem _ hx), by rw [List.length_append, List.length_singleton]; omega⟩)
  have lp1 := lp.1
  have e : (List.range' 1 n).foldl (fun z o => z ++ [((col bs o).getD (am (col bs o)) 0, am (col bs o))]) [((col bs 0).getD (am (col bs 0)) 0, am (col bs 0))] = bsts bs m := by
    have : ∀ (l : List Nat) (z : List (Rat × Nat)), l.foldl (fun z o => z ++ [((col bs o).getD (am (col bs o)) 0, am (col bs o))]) z = z ++ l.map fun k => ((col bs k).getD (am (col bs k)) 0, am (col bs k)) := fun l => by
      induction l with
      | nil => intro z; simp
      | cons a l ih => intro z; rw [List.foldl_cons, ih]; simp
    rw [this, en]
    unfold bsts
    rw [List.range_eq_range', List.range'_succ]
    rfl
  rw [e] at lp1
  have r0 := rO_0 m (by omega)
  have er : (List.range m).map (fun j : Nat => PyData.int (j : Int)) = .int 0 :: (List.range' 1 n).map (fun j : Nat => PyData.int (j : Int)) := by
    rw [en, List.range_eq_range', List.range'_succ]
    rfl
  rw [er] at r0
  simp only [Int.natCast_zero, List.nil_append] at f1
  rw [show t13 = .for (.n 4) (.range1 (.v 2)) i13 from rfl, r_for, n_range1, x_v]
  show ((ofO (rangeO 0 (m : Int))).bind fun xs => Res.ok (xs, _)).bind _ = _
  rw [r0, ofO_some, ok_bind, ok_bind, fl_cons]
  show ((ofO (bindT (.n 4) (.int 0) _)).bind _).bind _ = _
  rw [f1, ok_bind]
  exact lp1
theorem p14 {bs : List (List Rat)} {m : Nat} (h : okB bs m) : run P.C P.sub (callF P 19) t14 [s0, s1, s2, .d (bks bs), .u, s5, s6, s7, s8, .m false (mL pr (bsts bs m)), s10, s11, s12, s13, s14, s15, s16, s17, .u, .u, .u, .u, .u, .u, .u, .u, .u, .u] = .ok (.nx, [s0, s1, s2, .d (bks bs), .u, s5, s6, s7, s8, .d (.list ((bsts bs m).map pr)), s10, s11, s12, s13, s14, s15, s16, s17, .u, .u, .u, .u, .u, .u, .u, .u, .u, .u]) := by
  have c : callF P 19 13 [.d (bks bs)] = _ := w_best 17 h
  unfold t14
  simp only [it_l, it_t, rs_cons, rs_nil, r_asg, r_asg2, r_par2, r_aug, r_own, r_ownC, r_app, r_setP, r_ifs, r_for, r_fgt, r_ret, r_retD, r_retO, r_mv, r_ex, r_brk, r_cont, r_pass, x_v, x_fz, x_int, x_str, x_bl, x_non, x_neg, x_bin, x_cmp, x_chain, x_bop, x_not, x_ite, x_ix, x_sl, xo_no, xo_so, x_tup, x_lst, x_call, x_blt, x_isi, x_mth, x_ixP, x_lenP, x_spc, x_srtK, x_inP, t_inP, r_ownE, r_rem, r_ext, r_augP, r_parL, xs_nil, xs_cons, t_cmp, t_v, t_not, t_bop, t_ite, t_chain, t_isi, t_call, t_gq, t_bl, t_ix, t_bin, t_blt, i_of, n_range1, n_range2, i_zip, i_enum, i_enumz, xc_no, xc_so, fl_nil, fl_cons, bt_n, bt_2, bt_3, wipeE, keepS, backE, ok_bind, ofO_some, datO, List.getElem?_cons_zero, List.getElem?_cons_succ, List.set_cons_zero, List.set_cons_succ, List.map_cons, List.map_nil, dv_add, dv_sub, dv_mul, dv_fdiv, dv_mod, dv_pow, a_int, s_int, d_int, c_le, c_lt, c_gt, c_ge, c_eq, c_ne, e_int, tr_bool, tr_int, tr_none, s_bool, b_bool, b_abs, ip_int, ip_sub, if_true, if_false, eq_self, Bool.not_true, Bool.not_false, Bool.false_eq_true, Bool.true_eq_false, le_0, le_1, le_2, le_3, le_4, ic_lst, endE, Option.map_some, Option.bind_some, x_fz, c, mL_toD, eq_prs]
theorem p15 {bs : List (List Rat)} {m : Nat} (h : okB bs m) : run P.C P.sub (callF P 19) t15 [s0, s1, s2, s3, .u, s5, s6, s7, s8, .d (.list ((bsts bs m).map pr)), s10, s11, s12, s13, s14, s15, s16, s17, .u, .u, .u, .u, .u, .u, .u, .u, .u, .u] = .ok (.nx, [s0, s1, s2, s3, .u, s5, s6, s7, s8, .d (.list ((bsts bs m).map pr)), .d (frs (bst bs m)), s11, s12, s13, s14, s15, s16, s17, .u, .u, .u, .u, .u, .u, .u, .u, .u, .u]) := by
  have hL := line_v
  have h4 := h.m4
  have la := lc_map (C := P.C) (fn := callF P 19) (σ := [s0, s1, s2, s3, .u, s5, s6, s7, s8, .d (.list ((bsts bs m).map pr)), s10, s11, s12, s13, s14, s15, s16, s17, .u, .u, .u, .u, .u, .u, .u, .u, .u, .u]) (σ1 := [s0, s1, s2, s3, .u, s5, s6, s7, s8, .d (.list ((bsts bs m).map pr)), s10, s11, s12, s13, s14, s15, s16, s17, .u, .u, .u, .u, .u, .u, .u, .u, .u, .u]) (elt := .v 18) (tg := .t [(.n 18), (.n 26)]) (it := .of (.fz 9)) (own := [18, 26]) (l := bsts bs m) (em := pr) (g := fun p => fr p.1) (by simp only [it_l, it_t, rs_cons, rs_nil, r_asg, r_asg2, r_par2, r_aug, r_own, r_ownC, r_app, r_setP, r_ifs, r_for, r_fgt, r_ret, r_retD, r_retO, r_mv, r_ex, r_brk, r_cont, r_pass, x_v, x_fz, x_int, x_str, x_bl, x_non, x_neg, x_bin, x_cmp, x_chain, x_bop, x_not, x_ite, x_ix, x_sl, xo_no, xo_so, x_tup, x_lst, x_call, x_blt, x_isi, x_mth, x_ixP, x_lenP, x_spc, x_srtK, x_inP, t_inP, r_ownE, r_rem, r_ext, r_augP, r_parL, xs_nil, xs_cons, t_cmp, t_v, t_not, t_bop, t_ite, t_chain, t_isi, t_call, t_gq, t_bl, t_ix, t_bin, t_blt, i_of, n_range1, n_range2, i_zip, i_enum, i_enumz, xc_no, xc_so, fl_nil, fl_cons, bt_n, bt_2, bt_3, wipeE, keepS, backE, ok_bind, ofO_some, datO, List.getElem?_cons_zero, List.getElem?_cons_succ, List.set_cons_zero, List.set_cons_succ, List.map_cons, List.map_nil, dv_add, dv_sub, dv_mul, dv_fdiv, dv_mod, dv_pow, a_int, s_int, d_int, c_le, c_lt, c_gt, c_ge, c_eq, c_ne, e_int, tr_bool, tr_int, tr_none, s_bool, b_bool, b_abs, ip_int, ip_sub, if_true, if_false, eq_self, Bool.not_true, Bool.not_false, Bool.false_eq_true, Bool.true_eq_false, le_0, le_1, le_2, le_3, le_4, ic_lst, endE, Option.map_some, Option.bind_some, x_fz]) (by rw [bsts_len]; omega) (fun p hp => by
      unfold pr
      simp only [it_l, it_t, rs_cons, rs_nil, r_asg, r_asg2, r_par2, r_aug, r_own, r_ownC, r_app, r_setP, r_ifs, r_for, r_fgt, r_ret, r_retD, r_retO, r_mv, r_ex, r_brk, r_cont, r_pass, x_v, x_fz, x_int, x_str, x_bl, x_non, x_neg, x_bin, x_cmp, x_chain, x_bop, x_not, x_ite, x_ix, x_sl, xo_no, xo_so, x_tup, x_lst, x_call, x_blt, x_isi, x_mth, x_ixP, x_lenP, x_spc, x_srtK, x_inP, t_inP, r_ownE, r_rem, r_ext, r_augP, r_parL, xs_nil, xs_cons, t_cmp, t_v, t_not, t_bop, t_ite, t_chain, t_isi, t_call, t_gq, t_bl, t_ix, t_bin, t_blt, i_of, n_range1, n_range2, i_zip, i_enum, i_enumz, xc_no, xc_so, fl_nil, fl_cons, bt_n, bt_2, bt_3, wipeE, keepS, backE, ok_bind, ofO_some, datO, List.getElem?_cons_zero, List.getElem?_cons_succ, List.set_cons_zero, List.set_cons_succ, List.map_cons, List.map_nil, dv_add, dv_sub, dv_mul, dv_fdiv, dv_mod, dv_pow, a_int, s_int, d_int, c_le, c_lt, c_gt, c_ge, c_eq, c_ne, e_int, tr_bool, tr_int, tr_none, s_bool, b_bool, b_abs, ip_int, ip_sub, if_true, if_false, eq_self, Bool.not_true, Bool.not_false, Bool.false_eq_true, Bool.true_eq_false, le_0, le_1, le_2, le_3, le_4, ic_lst, endE, Option.map_some, Option.bind_some])
  unfold t15
  simp only [it_l, it_t, rs_cons, rs_nil, r_asg, r_asg2, r_par2, r_aug, r_own, r_ownC, r_app, r_setP, r_ifs, r_for, r_fgt, r_ret, r_retD, r_retO, r_mv, r_ex, r_brk, r_cont, r_pass, x_v, x_fz, x_int, x_str, x_bl, x_non, x_neg, x_bin, x_cmp, x_chain, x_bop, x_not, x_ite, x_ix, x_sl, xo_no, xo_so, x_tup, x_lst, x_call, x_blt, x_isi, x_mth, x_ixP, x_lenP, x_spc, x_srtK, x_inP, t_inP, r_ownE, r_rem, r_ext, r_augP, r_parL, xs_nil, xs_cons, t_cmp, t_v, t_not, t_bop, t_ite, t_chain, t_isi, t_call, t_gq, t_bl, t_ix, t_bin, t_blt, i_of, n_range1, n_range2, i_zip, i_enum, i_enumz, xc_no, xc_so, fl_nil, fl_cons, bt_n, bt_2, bt_3, wipeE, keepS, backE, ok_bind, ofO_some, datO, List.getElem?_cons_zero, List.getElem?_cons_succ, List.set_cons_zero, List.set_cons_succ, List.map_cons, List.map_nil, dv_add, dv_sub, dv_mul, dv_fdiv, dv_mod, dv_pow, a_int, s_int, d_int, c_le, c_lt, c_gt, c_ge, c_eq, c_ne, e_int, tr_bool, tr_int, tr_none, s_bool, b_bool, b_abs, ip_int, ip_sub, if_true, if_false, eq_self, Bool.not_true, Bool.not_false, Bool.false_eq_true, Bool.true_eq_false, le_0, le_1, le_2, le_3, le_4, ic_lst, endE, Option.map_some, Option.bind_some, la, frs_map]
  rfl
theorem p16 {o : List Rat} {m : Nat} (ho : ∀ q ∈ o, od q) (lo : o.length = m) (h0 : 0 < m) (hm : m ≤ 4) : run P.C P.sub (callF P 19) t16 [s0, s1, s2, s3, .u, s5, s6, s7, s8, s9, .d (frs o), s11, s12, s13, s14, s15, s16, s17, .u, .u, .u, .u, .u, .u, .u, .u, .u, .u] = .ok (.nx, [s0, s1, s2, s3, .u, s5, s6, s7, s8, s9, .d (frs o), .d (fr (Wh o)), s12, s13, s14, s15, s16, s17, .u, .u, .u, .u, .u, .u, .u, .u, .u, .u]) := by
  have hL := line_v
  have ne : o ≠ [] := fun e => by rw [e] at lo; simp at lo; omega
  have wp := Wh_pos (fun q hq => od_pos (ho q hq)) ne
  have ws := Wh_sz (fun q hq => (ho q hq).1) (by omega)
  have la := lc_map (C := P.C) (fn := callF P 19) (σ := [s0, s1, s2, s3, .u, s5, s6, s7, s8, s9, .d (frs o), s11, s12, s13, s14, s15, s16, s17, .u, .u, .u, .u, .u, .u, .u, .u, .u, .u]) (σ1 := [s0, s1, s2, s3, .u, s5, s6, s7, s8, s9, .d (frs o), s11, s12, s13, s14, s15, s16, s17, .u, .u, .u, .u, .u, .u, .u, .u, .u, .u]) (elt := .call 30 [(.v 18)]) (tg := .n 18) (it := .of (.v 10)) (own := [18]) (l := o) (em := fr) (g := fun q => fr (inv q)) (by simp only [it_l, it_t, rs_cons, rs_nil, r_asg, r_asg2, r_par2, r_aug, r_own, r_ownC, r_app, r_setP, r_ifs, r_for, r_fgt, r_ret, r_retD, r_retO, r_mv, r_ex, r_brk, r_cont, r_pass, x_v, x_fz, x_int, x_str, x_bl, x_non, x_neg, x_bin, x_cmp, x_chain, x_bop, x_not, x_ite, x_ix, x_sl, xo_no, xo_so, x_tup, x_lst, x_call, x_blt, x_isi, x_mth, x_ixP, x_lenP, x_spc, x_srtK, x_inP, t_inP, r_ownE, r_rem, r_ext, r_augP, r_parL, xs_nil, xs_cons, t_cmp, t_v, t_not, t_bop, t_ite, t_chain, t_isi, t_call, t_gq, t_bl, t_ix, t_bin, t_blt, i_of, n_range1, n_range2, i_zip, i_enum, i_enumz, xc_no, xc_so, fl_nil, fl_cons, bt_n, bt_2, bt_3, wipeE, keepS, backE, ok_bind, ofO_some, datO, List.getElem?_cons_zero, List.getElem?_cons_succ, List.set_cons_zero, List.set_cons_succ, List.map_cons, List.map_nil, dv_add, dv_sub, dv_mul, dv_fdiv, dv_mod, dv_pow, a_int, s_int, d_int, c_le, c_lt, c_gt, c_ge, c_eq, c_ne, e_int, tr_bool, tr_int, tr_none, s_bool, b_bool, b_abs, ip_int, ip_sub, if_true, if_false, eq_self, Bool.not_true, Bool.not_false, Bool.false_eq_true, Bool.true_eq_false, le_0, le_1, le_2, le_3, le_4, ic_lst, endE, Option.map_some, Option.bind_some, it_frs]) (by omega) (fun q hq => by
      have c : callF P 19 30 [.d (fr q)] = _ := turned 18 (od_pos (ho q hq))
      simp only [it_l, it_t, rs_cons, rs_nil, r_asg, r_asg2, r_par2, r_aug, r_own, r_ownC, r_app, r_setP, r_ifs, r_for, r_fgt, r_ret, r_retD, r_retO, r_mv, r_ex, r_brk, r_cont, r_pass, x_v, x_fz, x_int, x_str, x_bl, x_non, x_neg, x_bin, x_cmp, x_chain, x_bop, x_not, x_ite, x_ix, x_sl, xo_no, xo_so, x_tup, x_lst, x_call, x_blt, x_isi, x_mth, x_ixP, x_lenP, x_spc, x_srtK, x_inP, t_inP, r_ownE, r_rem, r_ext, r_augP, r_parL, xs_nil, xs_cons, t_cmp, t_v, t_not, t_bop, t_ite, t_chain, t_isi, t_call, t_gq, t_bl, t_ix, t_bin, t_blt, i_of, n_range1, n_range2, i_zip, i_enum, i_enumz, xc_no, xc_so, fl_nil, fl_cons, bt_n, bt_2, bt_3, wipeE, keepS, backE, ok_bind, ofO_some, datO, List.getElem?_cons_zero, List.getElem?_cons_succ, List.set_cons_zero, List.set_cons_succ, List.map_cons, List.map_nil, dv_add, dv_sub, dv_mul, dv_fdiv, dv_mod, dv_pow, a_int, s_int, d_int, c_le, c_lt, c_gt, c_ge, c_eq, c_ne, e_int, tr_bool, tr_int, tr_none, s_bool, b_bool, b_abs, ip_int, ip_sub, if_true, if_false, eq_self, Bool.not_true, Bool.not_false, Bool.false_eq_true, Bool.true_eq_false, le_0, le_1, le_2, le_3, le_4, ic_lst, endE, Option.map_some, Option.bind_some, c]
      rfl)
  have c2 : callF P 19 29 [.d (frs (o.map inv))] = _ := sumL 15 (i := 6) (o.map inv) (fun q hq => by
    obtain ⟨p, hp, rfl⟩ := List.mem_map.mp hq
    exact sz_inv (ho p hp).1) (by rw [List.length_map]; omega) rfl
  unfold t16
  simp only [it_l, it_t, rs_cons, rs_nil, r_asg, r_asg2, r_par2, r_aug, r_own, r_ownC, r_app, r_setP, r_ifs, r_for, r_fgt, r_ret, r_retD, r_retO, r_mv, r_ex, r_brk, r_cont, r_pass, x_v, x_fz, x_int, x_str, x_bl, x_non, x_neg, x_bin, x_cmp, x_chain, x_bop, x_not, x_ite, x_ix, x_sl, xo_no, xo_so, x_tup, x_lst, x_call, x_blt, x_isi, x_mth, x_ixP, x_lenP, x_spc, x_srtK, x_inP, t_inP, r_ownE, r_rem, r_ext, r_augP, r_parL, xs_nil, xs_cons, t_cmp, t_v, t_not, t_bop, t_ite, t_chain, t_isi, t_call, t_gq, t_bl, t_ix, t_bin, t_blt, i_of, n_range1, n_range2, i_zip, i_enum, i_enumz, xc_no, xc_so, fl_nil, fl_cons, bt_n, bt_2, bt_3, wipeE, keepS, backE, ok_bind, ofO_some, datO, List.getElem?_cons_zero, List.getElem?_cons_succ, List.set_cons_zero, List.set_cons_succ, List.map_cons, List.map_nil, dv_add, dv_sub, dv_mul, dv_fdiv, dv_mod, dv_pow, a_int, s_int, d_int, c_le, c_lt, c_gt, c_ge, c_eq, c_ne, e_int, tr_bool, tr_int, tr_none, s_bool, b_bool, b_abs, ip_int, ip_sub, if_true, if_false, eq_self, Bool.not_true, Bool.not_false, Bool.false_eq_true, Bool.true_eq_false, le_0, le_1, le_2, le_3, le_4, ic_lst, endE, Option.map_some, Option.bind_some, la, frs_map, c2]
  rfl
end
end K28
namespace K28
open PySem N
theorem nxE {row : List Int} (hr : row ≠ []) (hs : row.length < 1000000) (n : Nat) (m : Int) (h : m ≠ 0) : callF P 19 24 [.m (boxM row n), .d (.int m)] = .ok (.d (.int (drawn row n m)), some (boxM row (n + 1))) := next_ok (P := P) (f := 24) (k := 18) rfl hr n h hs
/-- a comprehension that leaves all as it was -/
theorem lcS {C : List (Str × D)} {fn : Fns} {σ : En} {α : Type} {elt : Ex} {tg : Tg} {it : Ir} {own : List Nat} {l : List α} {em g : α → D} (hit : smI C fn it σ = .ok (l.map em, σ)) (hl : l.length ≤ 100000)
    (hb : ∀ a ∈ l, ((ofO (bindT tg (em a) (wipeE σ own))).bind fun s => ((sm C fn elt).v s).bind fun q => .ok (some q.1, wipeE q.2 own)) = .ok (some (g a), wipeE σ own)) :
    (sm C fn (.lc elt tg it .no own)).v σ = .ok (.list (l.map g), backE σ (wipeE σ own) own) := lc_map hit (by have := line_v; omega) hb
theorem lcF {C : List (Str × D)} {fn : Fns} {σ : En} {α : Type} {elt : Ex} {tg : Tg} {it : Ir} {cs : Ex} {own : List Nat} {l : List α} {em g : α → D} {p : α → Bool} (hit : smI C fn it σ = .ok (l.map em, σ)) (hl : l.length ≤ 100000)
    (hb : ∀ a ∈ l, ((ofO (bindT tg (em a) (wipeE σ own))).bind fun s => (smC C fn (.so cs) s).bind fun r => match r.1 with
        | true => ((sm C fn elt).v r.2).bind fun q => .ok (some q.1, wipeE q.2 own)
        | false => .ok (none, wipeE r.2 own)) = .ok (if p a then some (g a) else none, wipeE σ own)) :
    (sm C fn (.lc elt tg it (.so cs) own)).v σ = .ok (.list ((l.filter p).map g), backE σ (wipeE σ own) own) := lc_flt hit (by have := line_v; omega) hb
theorem lcX {C : List (Str × D)} {fn : Fns} {σ : En} {α : Type} {S0 S : Nat → En} {em : α → D} {Q : α → Prop} {n w : Nat} {elt : Ex} {tg : Tg} {it : Ir} {own : List Nat} {xs : List D} (hit : smI C fn it σ = .ok (xs, S0 n)) (hS : wipeE (S0 n) own = S n) (hl : xs.length ≤ 100000)
    (hb : ∀ x ∈ xs, ∀ n, ∃ a, Q a ∧ ((ofO (bindT tg x (S n))).bind fun s => ((sm C fn elt).v s).bind fun q => .ok (some q.1, wipeE q.2 own)) = .ok (some (em a), S (n + w))) :
    ∃ ys : List α, ys.length = xs.length ∧ (∀ y ∈ ys, Q y) ∧ (sm C fn (.lc elt tg it .no own)).v σ = .ok (.list (ys.map em), backE (S0 n) (S (n + w * xs.length)) own) := by
  have hL := line_v
  obtain ⟨ys, l1, q1, e1⟩ := listL_ex (f := lcB C fn elt tg .no own) (S := S) (em := em) (Q := Q) (w := w) xs n [] hb (by rw [List.length_nil]; omega)
  refine ⟨ys, l1, q1, ?_⟩
  rw [x_lc, hit, ok_bind]
  show (listL _ xs (wipeE (S0 n) own) []).still.bind _ = _
  rw [hS, e1]
  rfl
section
variable {s0 s1 s2 s3 s5 s6 s7 s8 s9 s10 s11 s12 s13 s14 s15 s16 s17 : Slot}
theorem p17 {row : List Int} (hr : row ≠ []) (hs : row.length < 1000000) (n : Nat) : run P.C P.sub (callF P 19) t17 [s0, .m false (boxM row n), s2, s3, .u, s5, s6, s7, s8, s9, s10, s11, s12, s13, s14, s15, s16, s17, .u, .u, .u, .u, .u, .u, .u, .u, .u, .u] = .ok (.nx, [s0, .m false (boxM row (n + 1)), s2, s3, .u, s5, s6, s7, s8, s9, s10, s11, .d (.int (1 + drawn row n 100)), s13, s14, s15, s16, s17, .u, .u, .u, .u, .u, .u, .u, .u, .u, .u]) := by
  have nx := nxE hr hs
  unfold t17
  simp only [it_l, it_t, rs_cons, rs_nil, r_asg, r_asg2, r_par2, r_aug, r_own, r_ownC, r_app, r_setP, r_ifs, r_for, r_fgt, r_ret, r_retD, r_retO, r_mv, r_ex, r_brk, r_cont, r_pass, x_v, x_fz, x_int, x_str, x_bl, x_non, x_neg, x_bin, x_cmp, x_chain, x_bop, x_not, x_ite, x_ix, x_sl, xo_no, xo_so, x_tup, x_lst, x_call, x_blt, x_isi, x_mth, x_ixP, x_lenP, x_spc, x_srtK, x_inP, t_inP, r_ownE, r_rem, r_ext, r_augP, r_parL, xs_nil, xs_cons, t_cmp, t_v, t_not, t_bop, t_ite, t_chain, t_isi, t_call, t_gq, t_bl, t_ix, t_bin, t_blt, i_of, n_range1, n_range2, i_zip, i_enum, i_enumz, xc_no, xc_so, fl_nil, fl_cons, bt_n, bt_2, bt_3, wipeE, keepS, backE, ok_bind, ofO_some, datO, List.getElem?_cons_zero, List.getElem?_cons_succ, List.set_cons_zero, List.set_cons_succ, List.map_cons, List.map_nil, dv_add, dv_sub, dv_mul, dv_fdiv, dv_mod, dv_pow, a_int, s_int, d_int, c_le, c_lt, c_gt, c_ge, c_eq, c_ne, e_int, tr_bool, tr_int, tr_none, s_bool, b_bool, b_abs, ip_int, ip_sub, if_true, if_false, eq_self, Bool.not_true, Bool.not_false, Bool.false_eq_true, Bool.true_eq_false, le_0, le_1, le_2, le_3, le_4, ic_lst, endE, Option.map_some, Option.bind_some, x_callO, ne_eq, Int.reduceEq, not_false_eq_true, nx]
theorem p18 {bs : List (List Rat)} {m : Nat} (h : okB bs m) (s : Nat) (hs : s ≤ 100) (h1 : 0 < s) : run P.C P.sub (callF P 19) t18 [s0, s1, s2, .d (bks bs), .u, s5, s6, s7, s8, s9, s10, s11, .d (.int (s : Int)), s13, s14, s15, s16, s17, .u, .u, .u, .u, .u, .u, .u, .u, .u, .u] = .ok (.nx, [s0, s1, s2, .d (bks bs), .u, s5, s6, s7, .d (sure (bst bs m) s), s9, s10, s11, .d (.int (s : Int)), s13, s14, s15, s16, s17, .u, .u, .u, .u, .u, .u, .u, .u, .u, .u]) := by
  have c : callF P 19 14 [.d (bks bs), .d (.int (s : Int))] = _ := w_sure 13 h s hs
  unfold t18
  simp only [it_l, it_t, rs_cons, rs_nil, r_asg, r_asg2, r_par2, r_aug, r_own, r_ownC, r_app, r_setP, r_ifs, r_for, r_fgt, r_ret, r_retD, r_retO, r_mv, r_ex, r_brk, r_cont, r_pass, x_v, x_fz, x_int, x_str, x_bl, x_non, x_neg, x_bin, x_cmp, x_chain, x_bop, x_not, x_ite, x_ix, x_sl, xo_no, xo_so, x_tup, x_lst, x_call, x_blt, x_isi, x_mth, x_ixP, x_lenP, x_spc, x_srtK, x_inP, t_inP, r_ownE, r_rem, r_ext, r_augP, r_parL, xs_nil, xs_cons, t_cmp, t_v, t_not, t_bop, t_ite, t_chain, t_isi, t_call, t_gq, t_bl, t_ix, t_bin, t_blt, i_of, n_range1, n_range2, i_zip, i_enum, i_enumz, xc_no, xc_so, fl_nil, fl_cons, bt_n, bt_2, bt_3, wipeE, keepS, backE, ok_bind, ofO_some, datO, List.getElem?_cons_zero, List.getElem?_cons_succ, List.set_cons_zero, List.set_cons_succ, List.map_cons, List.map_nil, dv_add, dv_sub, dv_mul, dv_fdiv, dv_mod, dv_pow, a_int, s_int, d_int, c_le, c_lt, c_gt, c_ge, c_eq, c_ne, e_int, tr_bool, tr_int, tr_none, s_bool, b_bool, b_abs, ip_int, ip_sub, if_true, if_false, eq_self, Bool.not_true, Bool.not_false, Bool.false_eq_true, Bool.true_eq_false, le_0, le_1, le_2, le_3, le_4, ic_lst, endE, Option.map_some, Option.bind_some, c]
theorem p19 {bs : List (List Rat)} {m : Nat} (h : okB bs m) (s : Nat) (hs : s ≤ 100) (h1 : 0 < s) : run P.C P.sub (callF P 19) t19 [s0, s1, s2, s3, .u, s5, s6, s7, .d (sure (bst bs m) s), s9, s10, .d (fr (Wh (bst bs m))), s12, s13, s14, s15, s16, s17, .u, .u, .u, .u, .u, .u, .u, .u, .u, .u] = .ok (.nx, [s0, s1, s2, s3, .u, s5, s6, s7, .d (sure (bst bs m) s), s9, s10, .d (fr (Wh (bst bs m))), s12, s13, s14, s15, s16, s17, .u, .u, .u, .u, .u, .u, .u, .u, .u, .u]) := by
  have wp := Wh_pos (fun q hq => od_pos (bst_od h q hq)) (bst_ne h)
  have m4 := h.m4
  have wz := Wh_sz (fun q hq => (bst_od h q hq).1) (by rw [bst_len]; omega)
  have c : callF P 19 31 [.d (fr (Wh (bst bs m))), .d (fr 1)] = _ := lessL 18 (i := 29) (by omega) wz (sz_one (by omega))
  have e1 : cmpD .isnot (.none : D) .none = some false := rfl
  have e2 : ∀ xs : List D, cmpD .isnot (.tuple xs) .none = some true := fun _ => rfl
  have e3 : eqD (.bool true) (.bool true) = some true := rfl
  have e4 : eqD (.bool false) (.bool false) = some true := rfl
  unfold t19 sure
  by_cases w : Wh (bst bs m) < 1
  · rw [decide_eq_true w] at c
    rw [if_pos w]
    simp only [it_l, it_t, rs_cons, rs_nil, r_asg, r_asg2, r_par2, r_aug, r_own, r_ownC, r_app, r_setP, r_ifs, r_for, r_fgt, r_ret, r_retD, r_retO, r_mv, r_ex, r_brk, r_cont, r_pass, x_v, x_fz, x_int, x_str, x_bl, x_non, x_neg, x_bin, x_cmp, x_chain, x_bop, x_not, x_ite, x_ix, x_sl, xo_no, xo_so, x_tup, x_lst, x_call, x_blt, x_isi, x_mth, x_ixP, x_lenP, x_spc, x_srtK, x_inP, t_inP, r_ownE, r_rem, r_ext, r_augP, r_parL, xs_nil, xs_cons, t_cmp, t_v, t_not, t_bop, t_ite, t_chain, t_isi, t_call, t_gq, t_bl, t_ix, t_bin, t_blt, i_of, n_range1, n_range2, i_zip, i_enum, i_enumz, xc_no, xc_so, fl_nil, fl_cons, bt_n, bt_2, bt_3, wipeE, keepS, backE, ok_bind, ofO_some, datO, List.getElem?_cons_zero, List.getElem?_cons_succ, List.set_cons_zero, List.set_cons_succ, List.map_cons, List.map_nil, dv_add, dv_sub, dv_mul, dv_fdiv, dv_mod, dv_pow, a_int, s_int, d_int, c_le, c_lt, c_gt, c_ge, c_eq, c_ne, e_int, tr_bool, tr_int, tr_none, s_bool, b_bool, b_abs, ip_int, ip_sub, if_true, if_false, eq_self, Bool.not_true, Bool.not_false, Bool.false_eq_true, Bool.true_eq_false, le_0, le_1, le_2, le_3, le_4, ic_lst, endE, Option.map_some, Option.bind_some, fr_1, c, e2, e3]
  · rw [decide_eq_false w] at c
    rw [if_neg w]
    simp only [it_l, it_t, rs_cons, rs_nil, r_asg, r_asg2, r_par2, r_aug, r_own, r_ownC, r_app, r_setP, r_ifs, r_for, r_fgt, r_ret, r_retD, r_retO, r_mv, r_ex, r_brk, r_cont, r_pass, x_v, x_fz, x_int, x_str, x_bl, x_non, x_neg, x_bin, x_cmp, x_chain, x_bop, x_not, x_ite, x_ix, x_sl, xo_no, xo_so, x_tup, x_lst, x_call, x_blt, x_isi, x_mth, x_ixP, x_lenP, x_spc, x_srtK, x_inP, t_inP, r_ownE, r_rem, r_ext, r_augP, r_parL, xs_nil, xs_cons, t_cmp, t_v, t_not, t_bop, t_ite, t_chain, t_isi, t_call, t_gq, t_bl, t_ix, t_bin, t_blt, i_of, n_range1, n_range2, i_zip, i_enum, i_enumz, xc_no, xc_so, fl_nil, fl_cons, bt_n, bt_2, bt_3, wipeE, keepS, backE, ok_bind, ofO_some, datO, List.getElem?_cons_zero, List.getElem?_cons_succ, List.set_cons_zero, List.set_cons_succ, List.map_cons, List.map_nil, dv_add, dv_sub, dv_mul, dv_fdiv, dv_mod, dv_pow, a_int, s_int, d_int, c_le, c_lt, c_gt, c_ge, c_eq, c_ne, e_int, tr_bool, tr_int, tr_none, s_bool, b_bool, b_abs, ip_int, ip_sub, if_true, if_false, eq_self, Bool.not_true, Bool.not_false, Bool.false_eq_true, Bool.true_eq_false, le_0, le_1, le_2, le_3, le_4, ic_lst, endE, Option.map_some, Option.bind_some, fr_1, c, e1, e4]
def sk (l : List Rat) (s : Nat) : List Rat := l.map fun q => (s : Rat) / Wh l / q
theorem fold_mulL (c : Rat) : ∀ (l : List Rat) (z : Rat), (l.map fun q => c * q).foldl (· + ·) (c * z) = c * l.foldl (· + ·) z
  | [], z => rfl
  | q :: l, z => by
    rw [List.map_cons, List.foldl_cons, List.foldl_cons, ← fold_mulL c l (z + q)]
    congr 1
    grind
theorem rsum_mulL (c : Rat) (l : List Rat) : rsum (l.map fun q => c * q) = c * rsum l := by
  have := fold_mulL c l 0
  rw [Rat.mul_zero] at this
  exact this
theorem sk_sum {l : List Rat} {s : Nat} (h : Wh l ≠ 0) : rsum (sk l s) = s := by
  have e : sk l s = (l.map inv).map fun q => (s : Rat) / Wh l * q := by
    unfold sk; rw [List.map_map]; congr 1
  rw [e, rsum_mulL]
  show (s : Rat) / Wh l * Wh l = s
  rw [Rat.div_def, Rat.mul_assoc, Rat.inv_mul_cancel _ h, Rat.mul_one]
theorem sk_at {l : List Rat} {s k : Nat} (hk : k < l.length) (h : ∀ q ∈ l, q ≠ 0) : l.getD k 0 * (sk l s).getD k 0 = (s : Rat) / Wh l := by
  have e := getD_map (fun q => (s : Rat) / Wh l / q) 0 (l := l) (j := k) hk
  unfold sk
  rw [e]
  have n := h _ (getD_mem (r := l) hk)
  generalize l.getD k 0 = q at n
  rw [Rat.div_def _ q, Rat.mul_comm, Rat.mul_assoc, Rat.inv_mul_cancel _ n, Rat.mul_one]
theorem lt_over {s w : Rat} (hs : 0 < s) (hw : 0 < w) (h1 : w < 1) : s < s / w := by
  rw [Rat.div_def]
  have h2 : 0 < w⁻¹ := Rat.inv_pos.mpr hw
  have h3 : w * w⁻¹ = 1 := Rat.mul_inv_cancel _ (by grind)
  have h4 : 0 < (1 - w) * w⁻¹ := Rat.mul_pos (by grind) h2
  have h5 : 0 < s * ((1 - w) * w⁻¹) := Rat.mul_pos hs h4
  have h6 : s * ((1 - w) * w⁻¹) = s * w⁻¹ - s * (w * w⁻¹) := by grind
  rw [h6, h3] at h5
  grind
theorem any_ff {l : List Nat} : l.any (fun _ => false) = false := by induction l <;> simp_all
theorem p20 {bs : List (List Rat)} {m : Nat} (h : okB bs m) (s : Nat) (hs : s ≤ 100) (h1 : 0 < s) : run P.C P.sub (callF P 19) t20 [s0, s1, .d (.int (m : Nat)), s3, .u, s5, s6, s7, .d (sure (bst bs m) s), s9, .d (frs (bst bs m)), s11, .d (.int (s : Int)), s13, s14, s15, s16, s17, .u, .u, .u, .u, .u, .u, .u, .u, .u, .u] = .ok (.nx, [s0, s1, .d (.int (m : Nat)), s3, .u, s5, s6, s7, .d (sure (bst bs m) s), s9, .d (frs (bst bs m)), s11, .d (.int (s : Int)), s13, s14, s15, s16, s17, .u, .u, .u, .u, .u, if Wh (bst bs m) < 1 then .d (frs (sk (bst bs m) s)) else .u, if Wh (bst bs m) < 1 then .d (fr ((s : Rat) / Wh (bst bs m))) else .u, .u, .u, .u]) := by
  have wp := Wh_pos (fun q hq => od_pos (bst_od h q hq)) (bst_ne h)
  have m4 := h.m4
  have wz := Wh_sz (fun q hq => (bst_od h q hq).1) (by rw [bst_len]; omega)
  have hL := line_v
  by_cases w : Wh (bst bs m) < 1
  · have si := sz_s hs
    have sb : sz 36 ((s : Rat) / Wh (bst bs m)) := sz_div si wz (by grind)
    have ss : ∀ q ∈ sk (bst bs m) s, sz 42 q := fun q hq => by
      obtain ⟨p, hp, rfl⟩ := List.mem_map.mp hq
      exact sz_div sb (bst_od h p hp).1 (od_ne (bst_od h p hp))
    have ls : (sk (bst bs m) s).length = m := by unfold sk; rw [List.length_map, bst_len]
    have c1 : callF P 19 29 [.d (frs (sk (bst bs m) s))] = _ := sumL 15 (i := 42) (sk (bst bs m) s) ss (by rw [ls]; omega) rfl
    rw [sk_sum (by grind)] at c1
    have c2 : callF P 19 31 [.d (fr (s : Rat)), .d (fr ((s : Rat) / Wh (bst bs m)))] = _ := lessL 18 (i := 36) (by omega) (sz_mono si (by omega)) sb
    have h1' : (0 : Rat) < s := Rat.natCast_pos.mpr h1
    rw [decide_eq_true (lt_over h1' wp w)] at c2
    have r0 := rO_0 m (by omega)
    have e2 : ∀ xs : List D, cmpD .isnot (.tuple xs) .none = some true := fun _ => rfl
    have lc := lcS (C := P.C) (fn := callF P 19) (σ := [s0, s1, .d (.int (m : Nat)), s3, .u, s5, s6, s7, .d (sure (bst bs m) s), s9, .d (frs (bst bs m)), s11, .d (.int (s : Int)), s13, s14, s15, s16, s17, .u, .u, .u, .u, .u, .d (frs (sk (bst bs m) s)), .d (fr ((s : Rat) / Wh (bst bs m))), .u, .u, .u]) (elt := .cmp .ne (.call 28 [(.ix (.v 10) (.v 4)), (.ix (.v 23) (.v 4))]) (.v 24)) (tg := .n 4) (it := .range1 (.v 2)) (own := [4]) (l := List.range m) (em := fun j : Nat => PyData.int (j : Int)) (g := fun _ => .bool false) (by simp only [it_l, it_t, rs_cons, rs_nil, r_asg, r_asg2, r_par2, r_aug, r_own, r_ownC, r_app, r_setP, r_ifs, r_for, r_fgt, r_ret, r_retD, r_retO, r_mv, r_ex, r_brk, r_cont, r_pass, x_v, x_fz, x_int, x_str, x_bl, x_non, x_neg, x_bin, x_cmp, x_chain, x_bop, x_not, x_ite, x_ix, x_sl, xo_no, xo_so, x_tup, x_lst, x_call, x_blt, x_isi, x_mth, x_ixP, x_lenP, x_spc, x_srtK, x_inP, t_inP, r_ownE, r_rem, r_ext, r_augP, r_parL, xs_nil, xs_cons, t_cmp, t_v, t_not, t_bop, t_ite, t_chain, t_isi, t_call, t_gq, t_bl, t_ix, t_bin, t_blt, i_of, n_range1, n_range2, i_zip, i_enum, i_enumz, xc_no, xc_so, fl_nil, fl_cons, bt_n, bt_2, bt_3, wipeE, keepS, backE, ok_bind, ofO_some, datO, List.getElem?_cons_zero, List.getElem?_cons_succ, List.set_cons_zero, List.set_cons_succ, List.map_cons, List.map_nil, dv_add, dv_sub, dv_mul, dv_fdiv, dv_mod, dv_pow, a_int, s_int, d_int, c_le, c_lt, c_gt, c_ge, c_eq, c_ne, e_int, tr_bool, tr_int, tr_none, s_bool, b_bool, b_abs, ip_int, ip_sub, if_true, if_false, eq_self, Bool.not_true, Bool.not_false, Bool.false_eq_true, Bool.true_eq_false, le_0, le_1, le_2, le_3, le_4, ic_lst, endE, Option.map_some, Option.bind_some, r0]) (by rw [List.length_range]; omega) (fun j hj => by
      have hj := List.mem_range.mp hj
      have i1 := ix_frs (bst bs m) j (by rw [bst_len]; exact hj)
      have i2 := ix_frs (sk (bst bs m) s) j (by rw [ls]; exact hj)
      have c : callF P 19 28 [.d (fr ((bst bs m).getD j 0)), .d (fr ((sk (bst bs m) s).getD j 0))] = _ := timesL 16 (bst_od h _ (getD_mem (by rw [bst_len]; exact hj))).1 (ss _ (getD_mem (by rw [ls]; exact hj))) (by omega)
      rw [sk_at (by rw [bst_len]; exact hj) fun q hq => od_ne (bst_od h q hq)] at c
      simp only [it_l, it_t, rs_cons, rs_nil, r_asg, r_asg2, r_par2, r_aug, r_own, r_ownC, r_app, r_setP, r_ifs, r_for, r_fgt, r_ret, r_retD, r_retO, r_mv, r_ex, r_brk, r_cont, r_pass, x_v, x_fz, x_int, x_str, x_bl, x_non, x_neg, x_bin, x_cmp, x_chain, x_bop, x_not, x_ite, x_ix, x_sl, xo_no, xo_so, x_tup, x_lst, x_call, x_blt, x_isi, x_mth, x_ixP, x_lenP, x_spc, x_srtK, x_inP, t_inP, r_ownE, r_rem, r_ext, r_augP, r_parL, xs_nil, xs_cons, t_cmp, t_v, t_not, t_bop, t_ite, t_chain, t_isi, t_call, t_gq, t_bl, t_ix, t_bin, t_blt, i_of, n_range1, n_range2, i_zip, i_enum, i_enumz, xc_no, xc_so, fl_nil, fl_cons, bt_n, bt_2, bt_3, wipeE, keepS, backE, ok_bind, ofO_some, datO, List.getElem?_cons_zero, List.getElem?_cons_succ, List.set_cons_zero, List.set_cons_succ, List.map_cons, List.map_nil, dv_add, dv_sub, dv_mul, dv_fdiv, dv_mod, dv_pow, a_int, s_int, d_int, c_le, c_lt, c_gt, c_ge, c_eq, c_ne, e_int, tr_bool, tr_int, tr_none, s_bool, b_bool, b_abs, ip_int, ip_sub, if_true, if_false, eq_self, Bool.not_true, Bool.not_false, Bool.false_eq_true, Bool.true_eq_false, le_0, le_1, le_2, le_3, le_4, ic_lst, endE, Option.map_some, Option.bind_some, i1, i2, c, eq_fr, decide_true])
    have su : sure (bst bs m) s = .tuple [frs (sk (bst bs m) s), fr ((s : Rat) / Wh (bst bs m))] := if_pos w
    rw [su] at lc ⊢
    unfold t20
    rw [if_pos w, if_pos w]
    simp only [it_l, it_t, rs_cons, rs_nil, r_asg, r_asg2, r_par2, r_aug, r_own, r_ownC, r_app, r_setP, r_ifs, r_for, r_fgt, r_ret, r_retD, r_retO, r_mv, r_ex, r_brk, r_cont, r_pass, x_v, x_fz, x_int, x_str, x_bl, x_non, x_neg, x_bin, x_cmp, x_chain, x_bop, x_not, x_ite, x_ix, x_sl, xo_no, xo_so, x_tup, x_lst, x_call, x_blt, x_isi, x_mth, x_ixP, x_lenP, x_spc, x_srtK, x_inP, t_inP, r_ownE, r_rem, r_ext, r_augP, r_parL, xs_nil, xs_cons, t_cmp, t_v, t_not, t_bop, t_ite, t_chain, t_isi, t_call, t_gq, t_bl, t_ix, t_bin, t_blt, i_of, n_range1, n_range2, i_zip, i_enum, i_enumz, xc_no, xc_so, fl_nil, fl_cons, bt_n, bt_2, bt_3, wipeE, keepS, backE, ok_bind, ofO_some, datO, List.getElem?_cons_zero, List.getElem?_cons_succ, List.set_cons_zero, List.set_cons_succ, List.map_cons, List.map_nil, dv_add, dv_sub, dv_mul, dv_fdiv, dv_mod, dv_pow, a_int, s_int, d_int, c_le, c_lt, c_gt, c_ge, c_eq, c_ne, e_int, tr_bool, tr_int, tr_none, s_bool, b_bool, b_abs, ip_int, ip_sub, if_true, if_false, eq_self, Bool.not_true, Bool.not_false, Bool.false_eq_true, Bool.true_eq_false, le_0, le_1, le_2, le_3, le_4, ic_lst, endE, Option.map_some, Option.bind_some, e2, c1, fr_nat, eq_fr, decide_true, lc, b_any, any_ff, c2]
  · have e1 : cmpD .isnot (.none : D) .none = some false := rfl
    have su : sure (bst bs m) s = .none := if_neg w
    rw [su]
    unfold t20
    rw [if_neg w, if_neg w]
    simp only [it_l, it_t, rs_cons, rs_nil, r_asg, r_asg2, r_par2, r_aug, r_own, r_ownC, r_app, r_setP, r_ifs, r_for, r_fgt, r_ret, r_retD, r_retO, r_mv, r_ex, r_brk, r_cont, r_pass, x_v, x_fz, x_int, x_str, x_bl, x_non, x_neg, x_bin, x_cmp, x_chain, x_bop, x_not, x_ite, x_ix, x_sl, xo_no, xo_so, x_tup, x_lst, x_call, x_blt, x_isi, x_mth, x_ixP, x_lenP, x_spc, x_srtK, x_inP, t_inP, r_ownE, r_rem, r_ext, r_augP, r_parL, xs_nil, xs_cons, t_cmp, t_v, t_not, t_bop, t_ite, t_chain, t_isi, t_call, t_gq, t_bl, t_ix, t_bin, t_blt, i_of, n_range1, n_range2, i_zip, i_enum, i_enumz, xc_no, xc_so, fl_nil, fl_cons, bt_n, bt_2, bt_3, wipeE, keepS, backE, ok_bind, ofO_some, datO, List.getElem?_cons_zero, List.getElem?_cons_succ, List.set_cons_zero, List.set_cons_succ, List.map_cons, List.map_nil, dv_add, dv_sub, dv_mul, dv_fdiv, dv_mod, dv_pow, a_int, s_int, d_int, c_le, c_lt, c_gt, c_ge, c_eq, c_ne, e_int, tr_bool, tr_int, tr_none, s_bool, b_bool, b_abs, ip_int, ip_sub, if_true, if_false, eq_self, Bool.not_true, Bool.not_false, Bool.false_eq_true, Bool.true_eq_false, le_0, le_1, le_2, le_3, le_4, ic_lst, endE, Option.map_some, Option.bind_some, e1]
theorem p21 {x y : Slot} : run P.C P.sub (callF P 19) t21 [s0, s1, s2, s3, .u, s5, s6, s7, s8, s9, s10, s11, s12, s13, s14, s15, s16, s17, .u, .u, .u, .u, .u, x, y, .u, .u, .u] = .ok (.nx, [s0, s1, s2, s3, .u, s5, s6, s7, s8, s9, s10, s11, s12, s13, s14, s15, s16, s17, .u, .u, .u, .u, .u, .u, .u, .u, .u, .u]) := by
  unfold t21
  simp only [it_l, it_t, rs_cons, rs_nil, r_asg, r_asg2, r_par2, r_aug, r_own, r_ownC, r_app, r_setP, r_ifs, r_for, r_fgt, r_ret, r_retD, r_retO, r_mv, r_ex, r_brk, r_cont, r_pass, x_v, x_fz, x_int, x_str, x_bl, x_non, x_neg, x_bin, x_cmp, x_chain, x_bop, x_not, x_ite, x_ix, x_sl, xo_no, xo_so, x_tup, x_lst, x_call, x_blt, x_isi, x_mth, x_ixP, x_lenP, x_spc, x_srtK, x_inP, t_inP, r_ownE, r_rem, r_ext, r_augP, r_parL, xs_nil, xs_cons, t_cmp, t_v, t_not, t_bop, t_ite, t_chain, t_isi, t_call, t_gq, t_bl, t_ix, t_bin, t_blt, i_of, n_range1, n_range2, i_zip, i_enum, i_enumz, xc_no, xc_so, fl_nil, fl_cons, bt_n, bt_2, bt_3, wipeE, keepS, backE, ok_bind, ofO_some, datO, List.getElem?_cons_zero, List.getElem?_cons_succ, List.set_cons_zero, List.set_cons_succ, List.map_cons, List.map_nil, dv_add, dv_sub, dv_mul, dv_fdiv, dv_mod, dv_pow, a_int, s_int, d_int, c_le, c_lt, c_gt, c_ge, c_eq, c_ne, e_int, tr_bool, tr_int, tr_none, s_bool, b_bool, b_abs, ip_int, ip_sub, if_true, if_false, eq_self, Bool.not_true, Bool.not_false, Bool.false_eq_true, Bool.true_eq_false, le_0, le_1, le_2, le_3, le_4, ic_lst, endE, Option.map_some, Option.bind_some]
theorem dn_draw {a b : Int} (ha : 0 ≤ a ∧ a < 20) (hb : 0 ≤ b ∧ b < 4) : sz 5 (Rat.divInt a (1 + b)) := sz_divInt (by decide) (by omega) (by omega)
theorem p22 {row : List Int} (hr : row ≠ []) (hs : row.length < 1000000) (n : Nat) (m : Nat) (hm : m ≤ 4) : ∃ dn : List Rat, dn.length = m ∧ (∀ q ∈ dn, sz 5 q) ∧ run P.C P.sub (callF P 19) t22 [s0, .m false (boxM row n), .d (.int (m : Nat)), s3, .u, s5, s6, s7, s8, s9, s10, s11, s12, s13, s14, s15, s16, s17, .u, .u, .u, .u, .u, .u, .u, .u, .u, .u] = .ok (.nx, [s0, .m false (boxM row (n + 2 * m)), .d (.int (m : Nat)), s3, .u, s5, s6, s7, s8, s9, s10, s11, s12, .d (frs dn), s14, s15, s16, s17, .u, .u, .u, .u, .u, .u, .u, .u, .u, .u]) := by
  have nx := nxE hr hs
  have r0 := rO_0 m (by omega)
  obtain ⟨ys, l1, q1, e1⟩ := lcX (C := P.C) (fn := callF P 19) (α := Rat) (S0 := fun n => [s0, .m false (boxM row n), .d (.int (m : Nat)), s3, .u, s5, s6, s7, s8, s9, s10, s11, s12, s13, s14, s15, s16, s17, .u, .u, .u, .u, .u, .u, .u, .u, .u, .u]) (S := fun n => [s0, .m false (boxM row n), .d (.int (m : Nat)), s3, .u, s5, s6, s7, s8, s9, s10, s11, s12, s13, s14, s15, s16, s17, .u, .u, .u, .u, .u, .u, .u, .u, .u, .u]) (em := fr) (Q := sz 5) (n := n) (w := 2) (elt := .call 26 [(.callO 24 1 [(.int 20)]), (.bin .add (.int 1) (.callO 24 1 [(.int 4)]))]) (tg := .n 4) (it := .range1 (.v 2)) (own := [4]) (σ := [s0, .m false (boxM row n), .d (.int (m : Nat)), s3, .u, s5, s6, s7, s8, s9, s10, s11, s12, s13, s14, s15, s16, s17, .u, .u, .u, .u, .u, .u, .u, .u, .u, .u]) (xs := (List.range m).map fun j : Nat => PyData.int (j : Int)) (by simp only [it_l, it_t, rs_cons, rs_nil, r_asg, r_asg2, r_par2, r_aug, r_own, r_ownC, r_app, r_setP, r_ifs, r_for, r_fgt, r_ret, r_retD, r_retO, r_mv, r_ex, r_brk, r_cont, r_pass, x_v, x_fz, x_int, x_str, x_bl, x_non, x_neg, x_bin, x_cmp, x_chain, x_bop, x_not, x_ite, x_ix, x_sl, xo_no, xo_so, x_tup, x_lst, x_call, x_blt, x_isi, x_mth, x_ixP, x_lenP, x_spc, x_srtK, x_inP, t_inP, r_ownE, r_rem, r_ext, r_augP, r_parL, xs_nil, xs_cons, t_cmp, t_v, t_not, t_bop, t_ite, t_chain, t_isi, t_call, t_gq, t_bl, t_ix, t_bin, t_blt, i_of, n_range1, n_range2, i_zip, i_enum, i_enumz, xc_no, xc_so, fl_nil, fl_cons, bt_n, bt_2, bt_3, wipeE, keepS, backE, ok_bind, ofO_some, datO, List.getElem?_cons_zero, List.getElem?_cons_succ, List.set_cons_zero, List.set_cons_succ, List.map_cons, List.map_nil, dv_add, dv_sub, dv_mul, dv_fdiv, dv_mod, dv_pow, a_int, s_int, d_int, c_le, c_lt, c_gt, c_ge, c_eq, c_ne, e_int, tr_bool, tr_int, tr_none, s_bool, b_bool, b_abs, ip_int, ip_sub, if_true, if_false, eq_self, Bool.not_true, Bool.not_false, Bool.false_eq_true, Bool.true_eq_false, le_0, le_1, le_2, le_3, le_4, ic_lst, endE, Option.map_some, Option.bind_some, r0]) (by simp only [it_l, it_t, rs_cons, rs_nil, r_asg, r_asg2, r_par2, r_aug, r_own, r_ownC, r_app, r_setP, r_ifs, r_for, r_fgt, r_ret, r_retD, r_retO, r_mv, r_ex, r_brk, r_cont, r_pass, x_v, x_fz, x_int, x_str, x_bl, x_non, x_neg, x_bin, x_cmp, x_chain, x_bop, x_not, x_ite, x_ix, x_sl, xo_no, xo_so, x_tup, x_lst, x_call, x_blt, x_isi, x_mth, x_ixP, x_lenP, x_spc, x_srtK, x_inP, t_inP, r_ownE, r_rem, r_ext, r_augP, r_parL, xs_nil, xs_cons, t_cmp, t_v, t_not, t_bop, t_ite, t_chain, t_isi, t_call, t_gq, t_bl, t_ix, t_bin, t_blt, i_of, n_range1, n_range2, i_zip, i_enum, i_enumz, xc_no, xc_so, fl_nil, fl_cons, bt_n, bt_2, bt_3, wipeE, keepS, backE, ok_bind, ofO_some, datO, List.getElem?_cons_zero, List.getElem?_cons_succ, List.set_cons_zero, List.set_cons_succ, List.map_cons, List.map_nil, dv_add, dv_sub, dv_mul, dv_fdiv, dv_mod, dv_pow, a_int, s_int, d_int, c_le, c_lt, c_gt, c_ge, c_eq, c_ne, e_int, tr_bool, tr_int, tr_none, s_bool, b_bool, b_abs, ip_int, ip_sub, if_true, if_false, eq_self, Bool.not_true, Bool.not_false, Bool.false_eq_true, Bool.true_eq_false, le_0, le_1, le_2, le_3, le_4, ic_lst, endE, Option.map_some, Option.bind_some]) (by rw [List.length_map, List.length_range]; omega) (fun x _ n => by
    have g1 := drawn_rng row n (m := 20) (by decide)
    have g2 := drawn_rng row (n + 1) (m := 4) (by decide)
    refine ⟨_, dn_draw g1 g2, ?_⟩
    have c : callF P 19 26 [.d (.int (drawn row n 20)), .d (.int (1 + drawn row (n + 1) 4))] = _ := fracL 17 _ _ (by omega) (Nat.lt_of_lt_of_le (show (1 + drawn row (n + 1) 4).natAbs < 2 ^ 6 by omega) (Nat.pow_le_pow_right (by decide) (by decide)))
    simp only [it_l, it_t, rs_cons, rs_nil, r_asg, r_asg2, r_par2, r_aug, r_own, r_ownC, r_app, r_setP, r_ifs, r_for, r_fgt, r_ret, r_retD, r_retO, r_mv, r_ex, r_brk, r_cont, r_pass, x_v, x_fz, x_int, x_str, x_bl, x_non, x_neg, x_bin, x_cmp, x_chain, x_bop, x_not, x_ite, x_ix, x_sl, xo_no, xo_so, x_tup, x_lst, x_call, x_blt, x_isi, x_mth, x_ixP, x_lenP, x_spc, x_srtK, x_inP, t_inP, r_ownE, r_rem, r_ext, r_augP, r_parL, xs_nil, xs_cons, t_cmp, t_v, t_not, t_bop, t_ite, t_chain, t_isi, t_call, t_gq, t_bl, t_ix, t_bin, t_blt, i_of, n_range1, n_range2, i_zip, i_enum, i_enumz, xc_no, xc_so, fl_nil, fl_cons, bt_n, bt_2, bt_3, wipeE, keepS, backE, ok_bind, ofO_some, datO, List.getElem?_cons_zero, List.getElem?_cons_succ, List.set_cons_zero, List.set_cons_succ, List.map_cons, List.map_nil, dv_add, dv_sub, dv_mul, dv_fdiv, dv_mod, dv_pow, a_int, s_int, d_int, c_le, c_lt, c_gt, c_ge, c_eq, c_ne, e_int, tr_bool, tr_int, tr_none, s_bool, b_bool, b_abs, ip_int, ip_sub, if_true, if_false, eq_self, Bool.not_true, Bool.not_false, Bool.false_eq_true, Bool.true_eq_false, le_0, le_1, le_2, le_3, le_4, ic_lst, endE, Option.map_some, Option.bind_some, x_callO, ne_eq, Int.reduceEq, not_false_eq_true, nx, c])
  rw [List.length_map, List.length_range] at l1 e1
  refine ⟨ys, l1, q1, ?_⟩
  unfold t22
  simp only [it_l, it_t, rs_cons, rs_nil, r_asg, r_asg2, r_par2, r_aug, r_own, r_ownC, r_app, r_setP, r_ifs, r_for, r_fgt, r_ret, r_retD, r_retO, r_mv, r_ex, r_brk, r_cont, r_pass, x_v, x_fz, x_int, x_str, x_bl, x_non, x_neg, x_bin, x_cmp, x_chain, x_bop, x_not, x_ite, x_ix, x_sl, xo_no, xo_so, x_tup, x_lst, x_call, x_blt, x_isi, x_mth, x_ixP, x_lenP, x_spc, x_srtK, x_inP, t_inP, r_ownE, r_rem, r_ext, r_augP, r_parL, xs_nil, xs_cons, t_cmp, t_v, t_not, t_bop, t_ite, t_chain, t_isi, t_call, t_gq, t_bl, t_ix, t_bin, t_blt, i_of, n_range1, n_range2, i_zip, i_enum, i_enumz, xc_no, xc_so, fl_nil, fl_cons, bt_n, bt_2, bt_3, wipeE, keepS, backE, ok_bind, ofO_some, datO, List.getElem?_cons_zero, List.getElem?_cons_succ, List.set_cons_zero, List.set_cons_succ, List.map_cons, List.map_nil, dv_add, dv_sub, dv_mul, dv_fdiv, dv_mod, dv_pow, a_int, s_int, d_int, c_le, c_lt, c_gt, c_ge, c_eq, c_ne, e_int, tr_bool, tr_int, tr_none, s_bool, b_bool, b_abs, ip_int, ip_sub, if_true, if_false, eq_self, Bool.not_true, Bool.not_false, Bool.false_eq_true, Bool.true_eq_false, le_0, le_1, le_2, le_3, le_4, ic_lst, endE, Option.map_some, Option.bind_some, e1]
  rfl
theorem p23 {o dn : List Rat} {m : Nat} (ho : ∀ q ∈ o, od q) (lo : o.length = m) (h0 : 0 < m) (hm : m ≤ 4) (ld : dn.length = m) (hd : ∀ q ∈ dn, sz 5 q) : run P.C P.sub (callF P 19) t23 [s0, s1, s2, s3, .u, s5, s6, s7, s8, s9, s10, s11, s12, .d (frs dn), s14, s15, s16, s17, .u, .u, .u, .u, .u, .u, .u, .u, .u, .u] = .ok (.nx, [s0, s1, s2, s3, .u, s5, s6, s7, s8, s9, s10, s11, s12, .d (frs dn), .d (fr (rsum dn)), s15, s16, s17, .u, .u, .u, .u, .u, .u, .u, .u, .u, .u]) := by
  have c : callF P 19 29 [.d (frs dn)] = _ := sumL 15 (i := 5) dn hd (by rw [ld]; omega) rfl
  unfold t23
  simp only [it_l, it_t, rs_cons, rs_nil, r_asg, r_asg2, r_par2, r_aug, r_own, r_ownC, r_app, r_setP, r_ifs, r_for, r_fgt, r_ret, r_retD, r_retO, r_mv, r_ex, r_brk, r_cont, r_pass, x_v, x_fz, x_int, x_str, x_bl, x_non, x_neg, x_bin, x_cmp, x_chain, x_bop, x_not, x_ite, x_ix, x_sl, xo_no, xo_so, x_tup, x_lst, x_call, x_blt, x_isi, x_mth, x_ixP, x_lenP, x_spc, x_srtK, x_inP, t_inP, r_ownE, r_rem, r_ext, r_augP, r_parL, xs_nil, xs_cons, t_cmp, t_v, t_not, t_bop, t_ite, t_chain, t_isi, t_call, t_gq, t_bl, t_ix, t_bin, t_blt, i_of, n_range1, n_range2, i_zip, i_enum, i_enumz, xc_no, xc_so, fl_nil, fl_cons, bt_n, bt_2, bt_3, wipeE, keepS, backE, ok_bind, ofO_some, datO, List.getElem?_cons_zero, List.getElem?_cons_succ, List.set_cons_zero, List.set_cons_succ, List.map_cons, List.map_nil, dv_add, dv_sub, dv_mul, dv_fdiv, dv_mod, dv_pow, a_int, s_int, d_int, c_le, c_lt, c_gt, c_ge, c_eq, c_ne, e_int, tr_bool, tr_int, tr_none, s_bool, b_bool, b_abs, ip_int, ip_sub, if_true, if_false, eq_self, Bool.not_true, Bool.not_false, Bool.false_eq_true, Bool.true_eq_false, le_0, le_1, le_2, le_3, le_4, ic_lst, endE, Option.map_some, Option.bind_some, c]
theorem p24 {o dn : List Rat} {m : Nat} (ho : ∀ q ∈ o, od q) (lo : o.length = m) (h0 : 0 < m) (hm : m ≤ 4) (ld : dn.length = m) (hd : ∀ q ∈ dn, sz 5 q) : run P.C P.sub (callF P 19) t24 [s0, s1, .d (.int (m : Nat)), s3, .u, .d (frt o), s6, s7, s8, s9, s10, s11, s12, .d (frs dn), .d (fr (rsum dn)), s15, s16, s17, .u, .u, .u, .u, .u, .u, .u, .u, .u, .u] = .ok (.nx, [s0, s1, .d (.int (m : Nat)), s3, .u, .d (frt o), s6, s7, s8, s9, s10, s11, s12, .d (frs dn), .d (fr (rsum dn)), .d (frs (lft o dn m)), s16, s17, .u, .u, .u, .u, .u, .u, .u, .u, .u, .u]) := by
  have r0 := rO_0 m (by omega)
  have sp : sz 25 (rsum dn) := sz_mono (sz_rsum hd) (by omega)
  unfold t24
  simp only [it_l, it_t, rs_cons, rs_nil, r_asg, r_asg2, r_par2, r_aug, r_own, r_ownC, r_app, r_setP, r_ifs, r_for, r_fgt, r_ret, r_retD, r_retO, r_mv, r_ex, r_brk, r_cont, r_pass, x_v, x_fz, x_int, x_str, x_bl, x_non, x_neg, x_bin, x_cmp, x_chain, x_bop, x_not, x_ite, x_ix, x_sl, xo_no, xo_so, x_tup, x_lst, x_call, x_blt, x_isi, x_mth, x_ixP, x_lenP, x_spc, x_srtK, x_inP, t_inP, r_ownE, r_rem, r_ext, r_augP, r_parL, xs_nil, xs_cons, t_cmp, t_v, t_not, t_bop, t_ite, t_chain, t_isi, t_call, t_gq, t_bl, t_ix, t_bin, t_blt, i_of, n_range1, n_range2, i_zip, i_enum, i_enumz, xc_no, xc_so, fl_nil, fl_cons, bt_n, bt_2, bt_3, wipeE, keepS, backE, ok_bind, ofO_some, datO, List.getElem?_cons_zero, List.getElem?_cons_succ, List.set_cons_zero, List.set_cons_succ, List.map_cons, List.map_nil, dv_add, dv_sub, dv_mul, dv_fdiv, dv_mod, dv_pow, a_int, s_int, d_int, c_le, c_lt, c_gt, c_ge, c_eq, c_ne, e_int, tr_bool, tr_int, tr_none, s_bool, b_bool, b_abs, ip_int, ip_sub, if_true, if_false, eq_self, Bool.not_true, Bool.not_false, Bool.false_eq_true, Bool.true_eq_false, le_0, le_1, le_2, le_3, le_4, ic_lst, endE, Option.map_some, Option.bind_some]
  rw [lcS (l := List.range m) (em := fun j : Nat => PyData.int (j : Int)) (g := fun j => fr (o.getD j 0 * dn.getD j 0 - rsum dn)) ?_ ?_ ?_]
  · simp only [it_l, it_t, rs_cons, rs_nil, r_asg, r_asg2, r_par2, r_aug, r_own, r_ownC, r_app, r_setP, r_ifs, r_for, r_fgt, r_ret, r_retD, r_retO, r_mv, r_ex, r_brk, r_cont, r_pass, x_v, x_fz, x_int, x_str, x_bl, x_non, x_neg, x_bin, x_cmp, x_chain, x_bop, x_not, x_ite, x_ix, x_sl, xo_no, xo_so, x_tup, x_lst, x_call, x_blt, x_isi, x_mth, x_ixP, x_lenP, x_spc, x_srtK, x_inP, t_inP, r_ownE, r_rem, r_ext, r_augP, r_parL, xs_nil, xs_cons, t_cmp, t_v, t_not, t_bop, t_ite, t_chain, t_isi, t_call, t_gq, t_bl, t_ix, t_bin, t_blt, i_of, n_range1, n_range2, i_zip, i_enum, i_enumz, xc_no, xc_so, fl_nil, fl_cons, bt_n, bt_2, bt_3, wipeE, keepS, backE, ok_bind, ofO_some, datO, List.getElem?_cons_zero, List.getElem?_cons_succ, List.set_cons_zero, List.set_cons_succ, List.map_cons, List.map_nil, dv_add, dv_sub, dv_mul, dv_fdiv, dv_mod, dv_pow, a_int, s_int, d_int, c_le, c_lt, c_gt, c_ge, c_eq, c_ne, e_int, tr_bool, tr_int, tr_none, s_bool, b_bool, b_abs, ip_int, ip_sub, if_true, if_false, eq_self, Bool.not_true, Bool.not_false, Bool.false_eq_true, Bool.true_eq_false, le_0, le_1, le_2, le_3, le_4, ic_lst, endE, Option.map_some, Option.bind_some]
    unfold lft frs
    rw [List.map_map]
    rfl
  · simp only [it_l, it_t, rs_cons, rs_nil, r_asg, r_asg2, r_par2, r_aug, r_own, r_ownC, r_app, r_setP, r_ifs, r_for, r_fgt, r_ret, r_retD, r_retO, r_mv, r_ex, r_brk, r_cont, r_pass, x_v, x_fz, x_int, x_str, x_bl, x_non, x_neg, x_bin, x_cmp, x_chain, x_bop, x_not, x_ite, x_ix, x_sl, xo_no, xo_so, x_tup, x_lst, x_call, x_blt, x_isi, x_mth, x_ixP, x_lenP, x_spc, x_srtK, x_inP, t_inP, r_ownE, r_rem, r_ext, r_augP, r_parL, xs_nil, xs_cons, t_cmp, t_v, t_not, t_bop, t_ite, t_chain, t_isi, t_call, t_gq, t_bl, t_ix, t_bin, t_blt, i_of, n_range1, n_range2, i_zip, i_enum, i_enumz, xc_no, xc_so, fl_nil, fl_cons, bt_n, bt_2, bt_3, wipeE, keepS, backE, ok_bind, ofO_some, datO, List.getElem?_cons_zero, List.getElem?_cons_succ, List.set_cons_zero, List.set_cons_succ, List.map_cons, List.map_nil, dv_add, dv_sub, dv_mul, dv_fdiv, dv_mod, dv_pow, a_int, s_int, d_int, c_le, c_lt, c_gt, c_ge, c_eq, c_ne, e_int, tr_bool, tr_int, tr_none, s_bool, b_bool, b_abs, ip_int, ip_sub, if_true, if_false, eq_self, Bool.not_true, Bool.not_false, Bool.false_eq_true, Bool.true_eq_false, le_0, le_1, le_2, le_3, le_4, ic_lst, endE, Option.map_some, Option.bind_some, r0]
  · rw [List.length_range]; omega
  · intro j hj
    have hj := List.mem_range.mp hj
    have i1 := ix_frt o j (by omega)
    have i2 := ix_frs dn j (by omega)
    have s1 := (ho _ (getD_mem (r := o) (j := j) (by omega))).1
    have s2 := hd _ (getD_mem (r := dn) (j := j) (by omega))
    have c1 : callF P 19 28 [.d (fr (o.getD j 0)), .d (fr (dn.getD j 0))] = _ := timesL 16 s1 s2 (by omega)
    have c2 : callF P 19 27 [.d (fr (o.getD j 0 * dn.getD j 0)), .d (fr (-rsum dn))] = _ := plusL 16 (sz_mul s1 s2) (sz_neg sp) (by omega)
    rw [← Rat.sub_eq_add_neg] at c2
    simp only [it_l, it_t, rs_cons, rs_nil, r_asg, r_asg2, r_par2, r_aug, r_own, r_ownC, r_app, r_setP, r_ifs, r_for, r_fgt, r_ret, r_retD, r_retO, r_mv, r_ex, r_brk, r_cont, r_pass, x_v, x_fz, x_int, x_str, x_bl, x_non, x_neg, x_bin, x_cmp, x_chain, x_bop, x_not, x_ite, x_ix, x_sl, xo_no, xo_so, x_tup, x_lst, x_call, x_blt, x_isi, x_mth, x_ixP, x_lenP, x_spc, x_srtK, x_inP, t_inP, r_ownE, r_rem, r_ext, r_augP, r_parL, xs_nil, xs_cons, t_cmp, t_v, t_not, t_bop, t_ite, t_chain, t_isi, t_call, t_gq, t_bl, t_ix, t_bin, t_blt, i_of, n_range1, n_range2, i_zip, i_enum, i_enumz, xc_no, xc_so, fl_nil, fl_cons, bt_n, bt_2, bt_3, wipeE, keepS, backE, ok_bind, ofO_some, datO, List.getElem?_cons_zero, List.getElem?_cons_succ, List.set_cons_zero, List.set_cons_succ, List.map_cons, List.map_nil, dv_add, dv_sub, dv_mul, dv_fdiv, dv_mod, dv_pow, a_int, s_int, d_int, c_le, c_lt, c_gt, c_ge, c_eq, c_ne, e_int, tr_bool, tr_int, tr_none, s_bool, b_bool, b_abs, ip_int, ip_sub, if_true, if_false, eq_self, Bool.not_true, Bool.not_false, Bool.false_eq_true, Bool.true_eq_false, le_0, le_1, le_2, le_3, le_4, ic_lst, endE, Option.map_some, Option.bind_some, i1, i2, c1, ix_fr0, ix_fr1, fr_neg, c2]
theorem p25 {l : List Rat} {m : Nat} (hl : l.length = m) (h0 : 0 < m) (hm : m ≤ 4) (hz : ∀ q ∈ l, sz 37 q) : run P.C P.sub (callF P 19) t25 [s0, s1, .d (.int (m : Nat)), s3, .u, s5, s6, s7, s8, s9, s10, s11, s12, s13, s14, .d (frs l), s16, s17, .u, .u, .u, .u, .u, .u, .u, .u, .u, .u] = .ok (.nx, [s0, s1, .d (.int (m : Nat)), s3, .u, s5, s6, s7, s8, s9, s10, s11, s12, s13, s14, .d (frs l), .d (.int (wo l : Nat)), s17, .u, .u, .u, .u, .u, .u, .u, .u, .u, .u]) := by
  have hL := line_v
  have r0 := rO_0 m (by omega)
  obtain ⟨tl, et⟩ := wo_law (l := l) (by omega)
  unfold t25
  simp only [it_l, it_t, rs_cons, rs_nil, r_asg, r_asg2, r_par2, r_aug, r_own, r_ownC, r_app, r_setP, r_ifs, r_for, r_fgt, r_ret, r_retD, r_retO, r_mv, r_ex, r_brk, r_cont, r_pass, x_v, x_fz, x_int, x_str, x_bl, x_non, x_neg, x_bin, x_cmp, x_chain, x_bop, x_not, x_ite, x_ix, x_sl, xo_no, xo_so, x_tup, x_lst, x_call, x_blt, x_isi, x_mth, x_ixP, x_lenP, x_spc, x_srtK, x_inP, t_inP, r_ownE, r_rem, r_ext, r_augP, r_parL, xs_nil, xs_cons, t_cmp, t_v, t_not, t_bop, t_ite, t_chain, t_isi, t_call, t_gq, t_bl, t_ix, t_bin, t_blt, i_of, n_range1, n_range2, i_zip, i_enum, i_enumz, xc_no, xc_so, fl_nil, fl_cons, bt_n, bt_2, bt_3, wipeE, keepS, backE, ok_bind, ofO_some, datO, List.getElem?_cons_zero, List.getElem?_cons_succ, List.set_cons_zero, List.set_cons_succ, List.map_cons, List.map_nil, dv_add, dv_sub, dv_mul, dv_fdiv, dv_mod, dv_pow, a_int, s_int, d_int, c_le, c_lt, c_gt, c_ge, c_eq, c_ne, e_int, tr_bool, tr_int, tr_none, s_bool, b_bool, b_abs, ip_int, ip_sub, if_true, if_false, eq_self, Bool.not_true, Bool.not_false, Bool.false_eq_true, Bool.true_eq_false, le_0, le_1, le_2, le_3, le_4, ic_lst, endE, Option.map_some, Option.bind_some]
  rw [lcF (l := List.range m) (em := fun j : Nat => PyData.int (j : Int)) (g := fun j : Nat => PyData.int (j : Int)) (p := fun j => !(l.any fun q => decide (q < l.getD j 0))) ?_ ?_ ?_]
  · rw [hl] at et
    rw [et, List.map_cons]
    simp only [it_l, it_t, rs_cons, rs_nil, r_asg, r_asg2, r_par2, r_aug, r_own, r_ownC, r_app, r_setP, r_ifs, r_for, r_fgt, r_ret, r_retD, r_retO, r_mv, r_ex, r_brk, r_cont, r_pass, x_v, x_fz, x_int, x_str, x_bl, x_non, x_neg, x_bin, x_cmp, x_chain, x_bop, x_not, x_ite, x_ix, x_sl, xo_no, xo_so, x_tup, x_lst, x_call, x_blt, x_isi, x_mth, x_ixP, x_lenP, x_spc, x_srtK, x_inP, t_inP, r_ownE, r_rem, r_ext, r_augP, r_parL, xs_nil, xs_cons, t_cmp, t_v, t_not, t_bop, t_ite, t_chain, t_isi, t_call, t_gq, t_bl, t_ix, t_bin, t_blt, i_of, n_range1, n_range2, i_zip, i_enum, i_enumz, xc_no, xc_so, fl_nil, fl_cons, bt_n, bt_2, bt_3, wipeE, keepS, backE, ok_bind, ofO_some, datO, List.getElem?_cons_zero, List.getElem?_cons_succ, List.set_cons_zero, List.set_cons_succ, List.map_cons, List.map_nil, dv_add, dv_sub, dv_mul, dv_fdiv, dv_mod, dv_pow, a_int, s_int, d_int, c_le, c_lt, c_gt, c_ge, c_eq, c_ne, e_int, tr_bool, tr_int, tr_none, s_bool, b_bool, b_abs, ip_int, ip_sub, if_true, if_false, eq_self, Bool.not_true, Bool.not_false, Bool.false_eq_true, Bool.true_eq_false, le_0, le_1, le_2, le_3, le_4, ic_lst, endE, Option.map_some, Option.bind_some, ix_cons0]
  · simp only [it_l, it_t, rs_cons, rs_nil, r_asg, r_asg2, r_par2, r_aug, r_own, r_ownC, r_app, r_setP, r_ifs, r_for, r_fgt, r_ret, r_retD, r_retO, r_mv, r_ex, r_brk, r_cont, r_pass, x_v, x_fz, x_int, x_str, x_bl, x_non, x_neg, x_bin, x_cmp, x_chain, x_bop, x_not, x_ite, x_ix, x_sl, xo_no, xo_so, x_tup, x_lst, x_call, x_blt, x_isi, x_mth, x_ixP, x_lenP, x_spc, x_srtK, x_inP, t_inP, r_ownE, r_rem, r_ext, r_augP, r_parL, xs_nil, xs_cons, t_cmp, t_v, t_not, t_bop, t_ite, t_chain, t_isi, t_call, t_gq, t_bl, t_ix, t_bin, t_blt, i_of, n_range1, n_range2, i_zip, i_enum, i_enumz, xc_no, xc_so, fl_nil, fl_cons, bt_n, bt_2, bt_3, wipeE, keepS, backE, ok_bind, ofO_some, datO, List.getElem?_cons_zero, List.getElem?_cons_succ, List.set_cons_zero, List.set_cons_succ, List.map_cons, List.map_nil, dv_add, dv_sub, dv_mul, dv_fdiv, dv_mod, dv_pow, a_int, s_int, d_int, c_le, c_lt, c_gt, c_ge, c_eq, c_ne, e_int, tr_bool, tr_int, tr_none, s_bool, b_bool, b_abs, ip_int, ip_sub, if_true, if_false, eq_self, Bool.not_true, Bool.not_false, Bool.false_eq_true, Bool.true_eq_false, le_0, le_1, le_2, le_3, le_4, ic_lst, endE, Option.map_some, Option.bind_some, r0]
  · rw [List.length_range]; omega
  · intro j hj
    have hj := List.mem_range.mp hj
    simp only [it_l, it_t, rs_cons, rs_nil, r_asg, r_asg2, r_par2, r_aug, r_own, r_ownC, r_app, r_setP, r_ifs, r_for, r_fgt, r_ret, r_retD, r_retO, r_mv, r_ex, r_brk, r_cont, r_pass, x_v, x_fz, x_int, x_str, x_bl, x_non, x_neg, x_bin, x_cmp, x_chain, x_bop, x_not, x_ite, x_ix, x_sl, xo_no, xo_so, x_tup, x_lst, x_call, x_blt, x_isi, x_mth, x_ixP, x_lenP, x_spc, x_srtK, x_inP, t_inP, r_ownE, r_rem, r_ext, r_augP, r_parL, xs_nil, xs_cons, t_cmp, t_v, t_not, t_bop, t_ite, t_chain, t_isi, t_call, t_gq, t_bl, t_ix, t_bin, t_blt, i_of, n_range1, n_range2, i_zip, i_enum, i_enumz, xc_no, xc_so, fl_nil, fl_cons, bt_n, bt_2, bt_3, wipeE, keepS, backE, ok_bind, ofO_some, datO, List.getElem?_cons_zero, List.getElem?_cons_succ, List.set_cons_zero, List.set_cons_succ, List.map_cons, List.map_nil, dv_add, dv_sub, dv_mul, dv_fdiv, dv_mod, dv_pow, a_int, s_int, d_int, c_le, c_lt, c_gt, c_ge, c_eq, c_ne, e_int, tr_bool, tr_int, tr_none, s_bool, b_bool, b_abs, ip_int, ip_sub, if_true, if_false, eq_self, Bool.not_true, Bool.not_false, Bool.false_eq_true, Bool.true_eq_false, le_0, le_1, le_2, le_3, le_4, ic_lst, endE, Option.map_some, Option.bind_some]
    rw [lcS (l := l) (em := fr) (g := fun q => .bool (decide (q < l.getD j 0))) ?_ ?_ ?_]
    · simp only [it_l, it_t, rs_cons, rs_nil, r_asg, r_asg2, r_par2, r_aug, r_own, r_ownC, r_app, r_setP, r_ifs, r_for, r_fgt, r_ret, r_retD, r_retO, r_mv, r_ex, r_brk, r_cont, r_pass, x_v, x_fz, x_int, x_str, x_bl, x_non, x_neg, x_bin, x_cmp, x_chain, x_bop, x_not, x_ite, x_ix, x_sl, xo_no, xo_so, x_tup, x_lst, x_call, x_blt, x_isi, x_mth, x_ixP, x_lenP, x_spc, x_srtK, x_inP, t_inP, r_ownE, r_rem, r_ext, r_augP, r_parL, xs_nil, xs_cons, t_cmp, t_v, t_not, t_bop, t_ite, t_chain, t_isi, t_call, t_gq, t_bl, t_ix, t_bin, t_blt, i_of, n_range1, n_range2, i_zip, i_enum, i_enumz, xc_no, xc_so, fl_nil, fl_cons, bt_n, bt_2, bt_3, wipeE, keepS, backE, ok_bind, ofO_some, datO, List.getElem?_cons_zero, List.getElem?_cons_succ, List.set_cons_zero, List.set_cons_succ, List.map_cons, List.map_nil, dv_add, dv_sub, dv_mul, dv_fdiv, dv_mod, dv_pow, a_int, s_int, d_int, c_le, c_lt, c_gt, c_ge, c_eq, c_ne, e_int, tr_bool, tr_int, tr_none, s_bool, b_bool, b_abs, ip_int, ip_sub, if_true, if_false, eq_self, Bool.not_true, Bool.not_false, Bool.false_eq_true, Bool.true_eq_false, le_0, le_1, le_2, le_3, le_4, ic_lst, endE, Option.map_some, Option.bind_some, b_any, tr_bl]
      cases l.any fun q => decide (q < l.getD j 0) <;> simp only [it_l, it_t, rs_cons, rs_nil, r_asg, r_asg2, r_par2, r_aug, r_own, r_ownC, r_app, r_setP, r_ifs, r_for, r_fgt, r_ret, r_retD, r_retO, r_mv, r_ex, r_brk, r_cont, r_pass, x_v, x_fz, x_int, x_str, x_bl, x_non, x_neg, x_bin, x_cmp, x_chain, x_bop, x_not, x_ite, x_ix, x_sl, xo_no, xo_so, x_tup, x_lst, x_call, x_blt, x_isi, x_mth, x_ixP, x_lenP, x_spc, x_srtK, x_inP, t_inP, r_ownE, r_rem, r_ext, r_augP, r_parL, xs_nil, xs_cons, t_cmp, t_v, t_not, t_bop, t_ite, t_chain, t_isi, t_call, t_gq, t_bl, t_ix, t_bin, t_blt, i_of, n_range1, n_range2, i_zip, i_enum, i_enumz, xc_no, xc_so, fl_nil, fl_cons, bt_n, bt_2, bt_3, wipeE, keepS, backE, ok_bind, ofO_some, datO, List.getElem?_cons_zero, List.getElem?_cons_succ, List.set_cons_zero, List.set_cons_succ, List.map_cons, List.map_nil, dv_add, dv_sub, dv_mul, dv_fdiv, dv_mod, dv_pow, a_int, s_int, d_int, c_le, c_lt, c_gt, c_ge, c_eq, c_ne, e_int, tr_bool, tr_int, tr_none, s_bool, b_bool, b_abs, ip_int, ip_sub, if_true, if_false, eq_self, Bool.not_true, Bool.not_false, Bool.false_eq_true, Bool.true_eq_false, le_0, le_1, le_2, le_3, le_4, ic_lst, endE, Option.map_some, Option.bind_some]
    · simp only [it_l, it_t, rs_cons, rs_nil, r_asg, r_asg2, r_par2, r_aug, r_own, r_ownC, r_app, r_setP, r_ifs, r_for, r_fgt, r_ret, r_retD, r_retO, r_mv, r_ex, r_brk, r_cont, r_pass, x_v, x_fz, x_int, x_str, x_bl, x_non, x_neg, x_bin, x_cmp, x_chain, x_bop, x_not, x_ite, x_ix, x_sl, xo_no, xo_so, x_tup, x_lst, x_call, x_blt, x_isi, x_mth, x_ixP, x_lenP, x_spc, x_srtK, x_inP, t_inP, r_ownE, r_rem, r_ext, r_augP, r_parL, xs_nil, xs_cons, t_cmp, t_v, t_not, t_bop, t_ite, t_chain, t_isi, t_call, t_gq, t_bl, t_ix, t_bin, t_blt, i_of, n_range1, n_range2, i_zip, i_enum, i_enumz, xc_no, xc_so, fl_nil, fl_cons, bt_n, bt_2, bt_3, wipeE, keepS, backE, ok_bind, ofO_some, datO, List.getElem?_cons_zero, List.getElem?_cons_succ, List.set_cons_zero, List.set_cons_succ, List.map_cons, List.map_nil, dv_add, dv_sub, dv_mul, dv_fdiv, dv_mod, dv_pow, a_int, s_int, d_int, c_le, c_lt, c_gt, c_ge, c_eq, c_ne, e_int, tr_bool, tr_int, tr_none, s_bool, b_bool, b_abs, ip_int, ip_sub, if_true, if_false, eq_self, Bool.not_true, Bool.not_false, Bool.false_eq_true, Bool.true_eq_false, le_0, le_1, le_2, le_3, le_4, ic_lst, endE, Option.map_some, Option.bind_some, it_frs]
    · omega
    · intro q hq
      have i := ix_frs l j (by omega)
      have c : callF P 19 31 [.d (fr q), .d (fr (l.getD j 0))] = _ := lessL 18 (i := 37) (by omega) (hz _ hq) (hz _ (getD_mem (by omega)))
      simp only [it_l, it_t, rs_cons, rs_nil, r_asg, r_asg2, r_par2, r_aug, r_own, r_ownC, r_app, r_setP, r_ifs, r_for, r_fgt, r_ret, r_retD, r_retO, r_mv, r_ex, r_brk, r_cont, r_pass, x_v, x_fz, x_int, x_str, x_bl, x_non, x_neg, x_bin, x_cmp, x_chain, x_bop, x_not, x_ite, x_ix, x_sl, xo_no, xo_so, x_tup, x_lst, x_call, x_blt, x_isi, x_mth, x_ixP, x_lenP, x_spc, x_srtK, x_inP, t_inP, r_ownE, r_rem, r_ext, r_augP, r_parL, xs_nil, xs_cons, t_cmp, t_v, t_not, t_bop, t_ite, t_chain, t_isi, t_call, t_gq, t_bl, t_ix, t_bin, t_blt, i_of, n_range1, n_range2, i_zip, i_enum, i_enumz, xc_no, xc_so, fl_nil, fl_cons, bt_n, bt_2, bt_3, wipeE, keepS, backE, ok_bind, ofO_some, datO, List.getElem?_cons_zero, List.getElem?_cons_succ, List.set_cons_zero, List.set_cons_succ, List.map_cons, List.map_nil, dv_add, dv_sub, dv_mul, dv_fdiv, dv_mod, dv_pow, a_int, s_int, d_int, c_le, c_lt, c_gt, c_ge, c_eq, c_ne, e_int, tr_bool, tr_int, tr_none, s_bool, b_bool, b_abs, ip_int, ip_sub, if_true, if_false, eq_self, Bool.not_true, Bool.not_false, Bool.false_eq_true, Bool.true_eq_false, le_0, le_1, le_2, le_3, le_4, ic_lst, endE, Option.map_some, Option.bind_some, i, c]
theorem p26 {o dn : List Rat} {m : Nat} (ho : ∀ q ∈ o, od q) (lo : o.length = m) (h0 : 0 < m) (hm : m ≤ 4) (ld : dn.length = m) (hd : ∀ q ∈ dn, sz 5 q) : run P.C P.sub (callF P 19) t26 [s0, s1, s2, s3, .u, .d (frt o), s6, s7, s8, s9, s10, s11, s12, .d (frs dn), s14, .d (frs (lft o dn m)), .d (.int (wo (lft o dn m) : Nat)), s17, .u, .u, .u, .u, .u, .u, .u, .u, .u, .u] = .ok (.nx, [s0, s1, s2, s3, .u, .d (frt o), s6, s7, s8, s9, s10, s11, s12, .d (frs dn), s14, .d (frs (lft o dn m)), .d (.int (wo (lft o dn m) : Nat)), s17, .u, .u, .u, .u, .u, .u, .u, .u, .u, .u]) := by
  have c : callF P 19 15 [.d (frt o), .d (frs dn)] = _ := w_worst 14 h0 hm lo ld (fun q hq => (ho q hq).1) hd
  have wl : wo (lft o dn m) < (lft o dn m).length := wo_lt (by rw [lft_len]; exact h0)
  have i := ix_frs (lft o dn m) (wo (lft o dn m)) wl
  have q : bD (lft o dn m) (some (wo (lft o dn m))) = pr ((lft o dn m).getD (wo (lft o dn m)) 0, wo (lft o dn m)) := rfl
  rw [q] at c
  have q2 : PyData.tuple [fr ((lft o dn m).getD (wo (lft o dn m)) 0), .int ((wo (lft o dn m) : Nat) : Int)] = pr ((lft o dn m).getD (wo (lft o dn m)) 0, wo (lft o dn m)) := rfl
  unfold t26
  simp only [it_l, it_t, rs_cons, rs_nil, r_asg, r_asg2, r_par2, r_aug, r_own, r_ownC, r_app, r_setP, r_ifs, r_for, r_fgt, r_ret, r_retD, r_retO, r_mv, r_ex, r_brk, r_cont, r_pass, x_v, x_fz, x_int, x_str, x_bl, x_non, x_neg, x_bin, x_cmp, x_chain, x_bop, x_not, x_ite, x_ix, x_sl, xo_no, xo_so, x_tup, x_lst, x_call, x_blt, x_isi, x_mth, x_ixP, x_lenP, x_spc, x_srtK, x_inP, t_inP, r_ownE, r_rem, r_ext, r_augP, r_parL, xs_nil, xs_cons, t_cmp, t_v, t_not, t_bop, t_ite, t_chain, t_isi, t_call, t_gq, t_bl, t_ix, t_bin, t_blt, i_of, n_range1, n_range2, i_zip, i_enum, i_enumz, xc_no, xc_so, fl_nil, fl_cons, bt_n, bt_2, bt_3, wipeE, keepS, backE, ok_bind, ofO_some, datO, List.getElem?_cons_zero, List.getElem?_cons_succ, List.set_cons_zero, List.set_cons_succ, List.map_cons, List.map_nil, dv_add, dv_sub, dv_mul, dv_fdiv, dv_mod, dv_pow, a_int, s_int, d_int, c_le, c_lt, c_gt, c_ge, c_eq, c_ne, e_int, tr_bool, tr_int, tr_none, s_bool, b_bool, b_abs, ip_int, ip_sub, if_true, if_false, eq_self, Bool.not_true, Bool.not_false, Bool.false_eq_true, Bool.true_eq_false, le_0, le_1, le_2, le_3, le_4, ic_lst, endE, Option.map_some, Option.bind_some, c, i, q2, eq_pr]
theorem p27  : run P.C P.sub (callF P 19) t27 [s0, s1, s2, s3, .u, s5, s6, s7, s8, s9, s10, s11, s12, s13, s14, s15, s16, s17, .u, .u, .u, .u, .u, .u, .u, .u, .u, .u] = .ok (.nx, [s0, s1, s2, s3, .u, s5, s6, s7, s8, s9, s10, s11, s12, s13, s14, s15, s16, .d (fr 1), .u, .u, .u, .u, .u, .u, .u, .u, .u, .u]) := by
  unfold t27
  simp only [it_l, it_t, rs_cons, rs_nil, r_asg, r_asg2, r_par2, r_aug, r_own, r_ownC, r_app, r_setP, r_ifs, r_for, r_fgt, r_ret, r_retD, r_retO, r_mv, r_ex, r_brk, r_cont, r_pass, x_v, x_fz, x_int, x_str, x_bl, x_non, x_neg, x_bin, x_cmp, x_chain, x_bop, x_not, x_ite, x_ix, x_sl, xo_no, xo_so, x_tup, x_lst, x_call, x_blt, x_isi, x_mth, x_ixP, x_lenP, x_spc, x_srtK, x_inP, t_inP, r_ownE, r_rem, r_ext, r_augP, r_parL, xs_nil, xs_cons, t_cmp, t_v, t_not, t_bop, t_ite, t_chain, t_isi, t_call, t_gq, t_bl, t_ix, t_bin, t_blt, i_of, n_range1, n_range2, i_zip, i_enum, i_enumz, xc_no, xc_so, fl_nil, fl_cons, bt_n, bt_2, bt_3, wipeE, keepS, backE, ok_bind, ofO_some, datO, List.getElem?_cons_zero, List.getElem?_cons_succ, List.set_cons_zero, List.set_cons_succ, List.map_cons, List.map_nil, dv_add, dv_sub, dv_mul, dv_fdiv, dv_mod, dv_pow, a_int, s_int, d_int, c_le, c_lt, c_gt, c_ge, c_eq, c_ne, e_int, tr_bool, tr_int, tr_none, s_bool, b_bool, b_abs, ip_int, ip_sub, if_true, if_false, eq_self, Bool.not_true, Bool.not_false, Bool.false_eq_true, Bool.true_eq_false, le_0, le_1, le_2, le_3, le_4, ic_lst, endE, Option.map_some, Option.bind_some, fr_1]
theorem p28  : run P.C P.sub (callF P 19) t28 [s0, s1, s2, s3, .u, s5, s6, s7, s8, s9, s10, s11, s12, s13, s14, s15, s16, s17, .u, .u, .u, .u, .u, .u, .u, .u, .u, .u] = .ok (.nx, [s0, s1, s2, s3, .u, s5, s6, s7, s8, s9, s10, s11, s12, s13, s14, s15, s16, s17, .u, .u, .u, .u, .u, .u, .u, .u, .u, .u]) := by
  unfold t28
  simp only [it_l, it_t, rs_cons, rs_nil, r_asg, r_asg2, r_par2, r_aug, r_own, r_ownC, r_app, r_setP, r_ifs, r_for, r_fgt, r_ret, r_retD, r_retO, r_mv, r_ex, r_brk, r_cont, r_pass, x_v, x_fz, x_int, x_str, x_bl, x_non, x_neg, x_bin, x_cmp, x_chain, x_bop, x_not, x_ite, x_ix, x_sl, xo_no, xo_so, x_tup, x_lst, x_call, x_blt, x_isi, x_mth, x_ixP, x_lenP, x_spc, x_srtK, x_inP, t_inP, r_ownE, r_rem, r_ext, r_augP, r_parL, xs_nil, xs_cons, t_cmp, t_v, t_not, t_bop, t_ite, t_chain, t_isi, t_call, t_gq, t_bl, t_ix, t_bin, t_blt, i_of, n_range1, n_range2, i_zip, i_enum, i_enumz, xc_no, xc_so, fl_nil, fl_cons, bt_n, bt_2, bt_3, wipeE, keepS, backE, ok_bind, ofO_some, datO, List.getElem?_cons_zero, List.getElem?_cons_succ, List.set_cons_zero, List.set_cons_succ, List.map_cons, List.map_nil, dv_add, dv_sub, dv_mul, dv_fdiv, dv_mod, dv_pow, a_int, s_int, d_int, c_le, c_lt, c_gt, c_ge, c_eq, c_ne, e_int, tr_bool, tr_int, tr_none, s_bool, b_bool, b_abs, ip_int, ip_sub, if_true, if_false, eq_self, Bool.not_true, Bool.not_false, Bool.false_eq_true, Bool.true_eq_false, le_0, le_1, le_2, le_3, le_4, ic_lst, endE, Option.map_some, Option.bind_some]
theorem p29 {o : List Rat} {m : Nat} (ho : ∀ q ∈ o, od q) (lo : o.length = m) (h0 : 0 < m) (hm : m ≤ 4) : run P.C P.sub (callF P 19) t29 [s0, s1, s2, s3, .u, .d (frt o), s6, s7, s8, s9, s10, s11, s12, s13, s14, s15, s16, .d (fr 1), .u, .u, .u, .u, .u, .u, .u, .u, .u, .u] = .ok (.nx, [s0, s1, s2, s3, .u, .d (frt o), s6, s7, s8, s9, s10, s11, s12, s13, s14, s15, s16, .d (fr (o.foldl (· * ·) 1)), .u, .u, .u, .u, .u, .u, .u, .u, .u, .u]) := by
  have lp := forL_fold (b := fun x σ => (ofO (bindT (.n 18) x σ)).bind fun σ1 => runs P.C P.sub (callF P 19) [.asg (.n 17) (.call 28 [(.v 17), (.v 18)]), .fgt [18]] σ1) (em := fr) (st := fun z : Rat => [s0, s1, s2, s3, .u, .d (frt o), s6, s7, s8, s9, s10, s11, s12, s13, s14, s15, s16, .d (fr z), .u, .u, .u, .u, .u, .u, .u, .u, .u, .u]) (g := (· * ·)) (fun r z => (∀ q ∈ r, sz 6 q) ∧ ∃ i, sz i z ∧ i + 6 * r.length < 100) o 1 ⟨fun q hq => (ho q hq).1, 1, sz1, by omega⟩ (fun q r z ⟨q1, i, q2, q3⟩ => by
    rw [List.length_cons] at q3
    have c : callF P 19 28 [.d (fr z), .d (fr q)] = _ := timesL 16 q2 (q1 q (List.mem_cons_self ..)) (by omega)
    refine ⟨?_, fun x hx => q1 x (List.mem_cons_of_mem _ hx), i + 6, sz_mul q2 (q1 q (List.mem_cons_self ..)), by omega⟩
    simp only [it_l, it_t, rs_cons, rs_nil, r_asg, r_asg2, r_par2, r_aug, r_own, r_ownC, r_app, r_setP, r_ifs, r_for, r_fgt, r_ret, r_retD, r_retO, r_mv, r_ex, r_brk, r_cont, r_pass, x_v, x_fz, x_int, x_str, x_bl, x_non, x_neg, x_bin, x_cmp, x_chain, x_bop, x_not, x_ite, x_ix, x_sl, xo_no, xo_so, x_tup, x_lst, x_call, x_blt, x_isi, x_mth, x_ixP, x_lenP, x_spc, x_srtK, x_inP, t_inP, r_ownE, r_rem, r_ext, r_augP, r_parL, xs_nil, xs_cons, t_cmp, t_v, t_not, t_bop, t_ite, t_chain, t_isi, t_call, t_gq, t_bl, t_ix, t_bin, t_blt, i_of, n_range1, n_range2, i_zip, i_enum, i_enumz, xc_no, xc_so, fl_nil, fl_cons, bt_n, bt_2, bt_3, wipeE, keepS, backE, ok_bind, ofO_some, datO, List.getElem?_cons_zero, List.getElem?_cons_succ, List.set_cons_zero, List.set_cons_succ, List.map_cons, List.map_nil, dv_add, dv_sub, dv_mul, dv_fdiv, dv_mod, dv_pow, a_int, s_int, d_int, c_le, c_lt, c_gt, c_ge, c_eq, c_ne, e_int, tr_bool, tr_int, tr_none, s_bool, b_bool, b_abs, ip_int, ip_sub, if_true, if_false, eq_self, Bool.not_true, Bool.not_false, Bool.false_eq_true, Bool.true_eq_false, le_0, le_1, le_2, le_3, le_4, ic_lst, endE, Option.map_some, Option.bind_some, c])
  have lp1 := lp.1
  unfold t29
  simp only [it_l, it_t, rs_cons, rs_nil, r_asg, r_asg2, r_par2, r_aug, r_own, r_ownC, r_app, r_setP, r_ifs, r_for, r_fgt, r_ret, r_retD, r_retO, r_mv, r_ex, r_brk, r_cont, r_pass, x_v, x_fz, x_int, x_str, x_bl, x_non, x_neg, x_bin, x_cmp, x_chain, x_bop, x_not, x_ite, x_ix, x_sl, xo_no, xo_so, x_tup, x_lst, x_call, x_blt, x_isi, x_mth, x_ixP, x_lenP, x_spc, x_srtK, x_inP, t_inP, r_ownE, r_rem, r_ext, r_augP, r_parL, xs_nil, xs_cons, t_cmp, t_v, t_not, t_bop, t_ite, t_chain, t_isi, t_call, t_gq, t_bl, t_ix, t_bin, t_blt, i_of, n_range1, n_range2, i_zip, i_enum, i_enumz, xc_no, xc_so, fl_nil, fl_cons, bt_n, bt_2, bt_3, wipeE, keepS, backE, ok_bind, ofO_some, datO, List.getElem?_cons_zero, List.getElem?_cons_succ, List.set_cons_zero, List.set_cons_succ, List.map_cons, List.map_nil, dv_add, dv_sub, dv_mul, dv_fdiv, dv_mod, dv_pow, a_int, s_int, d_int, c_le, c_lt, c_gt, c_ge, c_eq, c_ne, e_int, tr_bool, tr_int, tr_none, s_bool, b_bool, b_abs, ip_int, ip_sub, if_true, if_false, eq_self, Bool.not_true, Bool.not_false, Bool.false_eq_true, Bool.true_eq_false, le_0, le_1, le_2, le_3, le_4, ic_lst, endE, Option.map_some, Option.bind_some] at lp1
  simp only [it_l, it_t, rs_cons, rs_nil, r_asg, r_asg2, r_par2, r_aug, r_own, r_ownC, r_app, r_setP, r_ifs, r_for, r_fgt, r_ret, r_retD, r_retO, r_mv, r_ex, r_brk, r_cont, r_pass, x_v, x_fz, x_int, x_str, x_bl, x_non, x_neg, x_bin, x_cmp, x_chain, x_bop, x_not, x_ite, x_ix, x_sl, xo_no, xo_so, x_tup, x_lst, x_call, x_blt, x_isi, x_mth, x_ixP, x_lenP, x_spc, x_srtK, x_inP, t_inP, r_ownE, r_rem, r_ext, r_augP, r_parL, xs_nil, xs_cons, t_cmp, t_v, t_not, t_bop, t_ite, t_chain, t_isi, t_call, t_gq, t_bl, t_ix, t_bin, t_blt, i_of, n_range1, n_range2, i_zip, i_enum, i_enumz, xc_no, xc_so, fl_nil, fl_cons, bt_n, bt_2, bt_3, wipeE, keepS, backE, ok_bind, ofO_some, datO, List.getElem?_cons_zero, List.getElem?_cons_succ, List.set_cons_zero, List.set_cons_succ, List.map_cons, List.map_nil, dv_add, dv_sub, dv_mul, dv_fdiv, dv_mod, dv_pow, a_int, s_int, d_int, c_le, c_lt, c_gt, c_ge, c_eq, c_ne, e_int, tr_bool, tr_int, tr_none, s_bool, b_bool, b_abs, ip_int, ip_sub, if_true, if_false, eq_self, Bool.not_true, Bool.not_false, Bool.false_eq_true, Bool.true_eq_false, le_0, le_1, le_2, le_3, le_4, ic_lst, endE, Option.map_some, Option.bind_some, it_frt, lp1]
theorem p30 {o : List Rat} {m : Nat} (ho : ∀ q ∈ o, od q) (lo : o.length = m) (h0 : 0 < m) (hm : m ≤ 4) : run P.C P.sub (callF P 19) t30 [s0, s1, .d (.int (m : Nat)), s3, .u, .d (frt o), s6, .d (frs (fa o)), s8, s9, s10, s11, s12, s13, s14, s15, s16, .d (fr (o.foldl (· * ·) 1)), .u, .u, .u, .u, .u, .u, .u, .u, .u, .u] = .ok (.nx, [s0, s1, .d (.int (m : Nat)), s3, .u, .d (frt o), s6, .d (frs (fa o)), s8, s9, s10, s11, s12, s13, s14, s15, s16, .d (fr (o.foldl (· * ·) 1)), .u, .u, .u, .u, .u, .u, .u, .u, .u, .u]) := by
  have r0 := rO_0 m (by omega)
  have ne : o ≠ [] := fun e => by rw [e] at lo; simp at lo; omega
  have lf : (fa o).length = m := by rw [fa_len]; exact lo
  have hf := fa_od ho lo h0 hm
  have c1 : callF P 19 16 [.d (frt o)] = _ := w_accum 15 (z := frt o) o (fun q hq => (ho q hq).1) (by omega) rfl
  have c2 : callF P 19 16 [.d (.list [])] = .ok (.d (fr 1), none) := w_accum 15 (z := .list []) [] (fun q hq => nomatch hq) (by simp) rfl
  have c3 : callF P 19 17 [.d (frt o), .d (frs (fa o))] = _ := w_mean 15 hm lo lf (fun q hq => (ho q hq).1) (fun q hq => sz_mono (hf q hq).1 (by omega))
  unfold t30
  simp only [it_l, it_t, rs_cons, rs_nil, r_asg, r_asg2, r_par2, r_aug, r_own, r_ownC, r_app, r_setP, r_ifs, r_for, r_fgt, r_ret, r_retD, r_retO, r_mv, r_ex, r_brk, r_cont, r_pass, x_v, x_fz, x_int, x_str, x_bl, x_non, x_neg, x_bin, x_cmp, x_chain, x_bop, x_not, x_ite, x_ix, x_sl, xo_no, xo_so, x_tup, x_lst, x_call, x_blt, x_isi, x_mth, x_ixP, x_lenP, x_spc, x_srtK, x_inP, t_inP, r_ownE, r_rem, r_ext, r_augP, r_parL, xs_nil, xs_cons, t_cmp, t_v, t_not, t_bop, t_ite, t_chain, t_isi, t_call, t_gq, t_bl, t_ix, t_bin, t_blt, i_of, n_range1, n_range2, i_zip, i_enum, i_enumz, xc_no, xc_so, fl_nil, fl_cons, bt_n, bt_2, bt_3, wipeE, keepS, backE, ok_bind, ofO_some, datO, List.getElem?_cons_zero, List.getElem?_cons_succ, List.set_cons_zero, List.set_cons_succ, List.map_cons, List.map_nil, dv_add, dv_sub, dv_mul, dv_fdiv, dv_mod, dv_pow, a_int, s_int, d_int, c_le, c_lt, c_gt, c_ge, c_eq, c_ne, e_int, tr_bool, tr_int, tr_none, s_bool, b_bool, b_abs, ip_int, ip_sub, if_true, if_false, eq_self, Bool.not_true, Bool.not_false, Bool.false_eq_true, Bool.true_eq_false, le_0, le_1, le_2, le_3, le_4, ic_lst, endE, Option.map_some, Option.bind_some, c1, c2, c3, fr_1, eq_fr, decide_true]
  rw [lcS (l := List.range m) (em := fun j : Nat => PyData.int (j : Int)) (g := fun j => fr (o.getD j 0 * (fa o).getD j 0)) ?_ ?_ ?_]
  · have q : (PyData.list ((List.range m).map fun j => fr (o.getD j 0 * (fa o).getD j 0)) : D) = frs (mb o (fa o) m) := by unfold mb frs; rw [List.map_map]; rfl
    rw [q]
    simp only [it_l, it_t, rs_cons, rs_nil, r_asg, r_asg2, r_par2, r_aug, r_own, r_ownC, r_app, r_setP, r_ifs, r_for, r_fgt, r_ret, r_retD, r_retO, r_mv, r_ex, r_brk, r_cont, r_pass, x_v, x_fz, x_int, x_str, x_bl, x_non, x_neg, x_bin, x_cmp, x_chain, x_bop, x_not, x_ite, x_ix, x_sl, xo_no, xo_so, x_tup, x_lst, x_call, x_blt, x_isi, x_mth, x_ixP, x_lenP, x_spc, x_srtK, x_inP, t_inP, r_ownE, r_rem, r_ext, r_augP, r_parL, xs_nil, xs_cons, t_cmp, t_v, t_not, t_bop, t_ite, t_chain, t_isi, t_call, t_gq, t_bl, t_ix, t_bin, t_blt, i_of, n_range1, n_range2, i_zip, i_enum, i_enumz, xc_no, xc_so, fl_nil, fl_cons, bt_n, bt_2, bt_3, wipeE, keepS, backE, ok_bind, ofO_some, datO, List.getElem?_cons_zero, List.getElem?_cons_succ, List.set_cons_zero, List.set_cons_succ, List.map_cons, List.map_nil, dv_add, dv_sub, dv_mul, dv_fdiv, dv_mod, dv_pow, a_int, s_int, d_int, c_le, c_lt, c_gt, c_ge, c_eq, c_ne, e_int, tr_bool, tr_int, tr_none, s_bool, b_bool, b_abs, ip_int, ip_sub, if_true, if_false, eq_self, Bool.not_true, Bool.not_false, Bool.false_eq_true, Bool.true_eq_false, le_0, le_1, le_2, le_3, le_4, ic_lst, endE, Option.map_some, Option.bind_some, eq_frs', decide_true]
  · simp only [it_l, it_t, rs_cons, rs_nil, r_asg, r_asg2, r_par2, r_aug, r_own, r_ownC, r_app, r_setP, r_ifs, r_for, r_fgt, r_ret, r_retD, r_retO, r_mv, r_ex, r_brk, r_cont, r_pass, x_v, x_fz, x_int, x_str, x_bl, x_non, x_neg, x_bin, x_cmp, x_chain, x_bop, x_not, x_ite, x_ix, x_sl, xo_no, xo_so, x_tup, x_lst, x_call, x_blt, x_isi, x_mth, x_ixP, x_lenP, x_spc, x_srtK, x_inP, t_inP, r_ownE, r_rem, r_ext, r_augP, r_parL, xs_nil, xs_cons, t_cmp, t_v, t_not, t_bop, t_ite, t_chain, t_isi, t_call, t_gq, t_bl, t_ix, t_bin, t_blt, i_of, n_range1, n_range2, i_zip, i_enum, i_enumz, xc_no, xc_so, fl_nil, fl_cons, bt_n, bt_2, bt_3, wipeE, keepS, backE, ok_bind, ofO_some, datO, List.getElem?_cons_zero, List.getElem?_cons_succ, List.set_cons_zero, List.set_cons_succ, List.map_cons, List.map_nil, dv_add, dv_sub, dv_mul, dv_fdiv, dv_mod, dv_pow, a_int, s_int, d_int, c_le, c_lt, c_gt, c_ge, c_eq, c_ne, e_int, tr_bool, tr_int, tr_none, s_bool, b_bool, b_abs, ip_int, ip_sub, if_true, if_false, eq_self, Bool.not_true, Bool.not_false, Bool.false_eq_true, Bool.true_eq_false, le_0, le_1, le_2, le_3, le_4, ic_lst, endE, Option.map_some, Option.bind_some, r0]
  · rw [List.length_range]; omega
  · intro j hj
    have hj := List.mem_range.mp hj
    have i1 := ix_frt o j (by omega)
    have i2 := ix_frs (fa o) j (by omega)
    have c : callF P 19 28 [.d (fr (o.getD j 0)), .d (fr ((fa o).getD j 0))] = _ := timesL 16 (ho _ (getD_mem (r := o) (j := j) (by omega))).1 (hf _ (getD_mem (r := fa o) (j := j) (by omega))).1 (by omega)
    simp only [it_l, it_t, rs_cons, rs_nil, r_asg, r_asg2, r_par2, r_aug, r_own, r_ownC, r_app, r_setP, r_ifs, r_for, r_fgt, r_ret, r_retD, r_retO, r_mv, r_ex, r_brk, r_cont, r_pass, x_v, x_fz, x_int, x_str, x_bl, x_non, x_neg, x_bin, x_cmp, x_chain, x_bop, x_not, x_ite, x_ix, x_sl, xo_no, xo_so, x_tup, x_lst, x_call, x_blt, x_isi, x_mth, x_ixP, x_lenP, x_spc, x_srtK, x_inP, t_inP, r_ownE, r_rem, r_ext, r_augP, r_parL, xs_nil, xs_cons, t_cmp, t_v, t_not, t_bop, t_ite, t_chain, t_isi, t_call, t_gq, t_bl, t_ix, t_bin, t_blt, i_of, n_range1, n_range2, i_zip, i_enum, i_enumz, xc_no, xc_so, fl_nil, fl_cons, bt_n, bt_2, bt_3, wipeE, keepS, backE, ok_bind, ofO_some, datO, List.getElem?_cons_zero, List.getElem?_cons_succ, List.set_cons_zero, List.set_cons_succ, List.map_cons, List.map_nil, dv_add, dv_sub, dv_mul, dv_fdiv, dv_mod, dv_pow, a_int, s_int, d_int, c_le, c_lt, c_gt, c_ge, c_eq, c_ne, e_int, tr_bool, tr_int, tr_none, s_bool, b_bool, b_abs, ip_int, ip_sub, if_true, if_false, eq_self, Bool.not_true, Bool.not_false, Bool.false_eq_true, Bool.true_eq_false, le_0, le_1, le_2, le_3, le_4, ic_lst, endE, Option.map_some, Option.bind_some, i1, i2, c]
theorem mb_fa {o : List Rat} {m : Nat} (ho : ∀ q ∈ o, od q) (lo : o.length = m) : mb o (fa o) m = (List.range m).map fun _ => inv (Wh o) := by
  unfold mb
  refine List.map_congr_left fun j hj => ?_
  have hj := List.mem_range.mp hj
  have e := getD_map (fun q => inv q * inv (Wh o)) 0 (l := o) (j := j) (by omega)
  unfold fa
  rw [e]
  have n := od_ne (ho _ (getD_mem (r := o) (j := j) (by omega)))
  generalize o.getD j 0 = q at n
  unfold inv
  rw [← Rat.mul_assoc, Rat.mul_inv_cancel _ n, Rat.one_mul]
theorem tups_frs (l : List Rat) : tupsO (l.map fr) = some (l.map fun q => [q.num, (q.den : Int)]) := by
  induction l with
  | nil => rfl
  | cons q l ih => rw [List.map_cons, List.map_cons, fr, tupsO, ih]; rfl
theorem nub_const {α : Type} (x : List Int) : ∀ (l : List α), l ≠ [] → (nub (l.map fun _ => x)).length = 1
  | [], h => absurd rfl h
  | [a], _ => rfl
  | a :: b :: l, _ => by
    have ih := nub_const x (b :: l) (by simp)
    rw [List.map_cons, nub, if_pos (by simp)]
    exact ih
theorem p31 {o : List Rat} {m : Nat} (ho : ∀ q ∈ o, od q) (lo : o.length = m) (h0 : 0 < m) (hm : m ≤ 4) : run P.C P.sub (callF P 19) t31 [s0, s1, s2, s3, .u, .d (frt o), .d (fr (Wh o)), .d (frs (fa o)), s8, s9, s10, s11, s12, s13, s14, s15, s16, s17, .u, .u, .u, .u, .u, .u, .u, .u, .u, .u] = .ok (.nx, [s0, s1, s2, s3, .u, .d (frt o), .d (fr (Wh o)), .d (frs (fa o)), s8, s9, s10, s11, s12, s13, s14, s15, s16, s17, .u, .u, .u, .u, .u, .u, .u, .u, .u, .u]) := by
  have ne : o ≠ [] := fun e => by rw [e] at lo; simp at lo; omega
  have lf : (fa o).length = m := by rw [fa_len]; exact lo
  have hf := fa_od ho lo h0 hm
  have wp := Wh_pos (fun q hq => od_pos (ho q hq)) ne
  have c3 : callF P 19 17 [.d (frt o), .d (frs (fa o))] = _ := w_mean 15 hm lo lf (fun q hq => (ho q hq).1) (fun q hq => sz_mono (hf q hq).1 (by omega))
  have c4 : callF P 19 30 [.d (fr (Wh o))] = .ok (.d (fr (inv (Wh o))), none) := turned 18 wp
  have z1 : (((1 : Nat) : Int) == 1) = true := rfl
  rw [mb_fa ho lo] at c3
  have i : idxD (frs ((List.range m).map fun _ => inv (Wh o))) (.int 0) = some (fr (inv (Wh o))) := by
    have := ix_frs ((List.range m).map fun _ => inv (Wh o)) 0 (by rw [List.length_map, List.length_range]; exact h0)
    have g := getD_map (fun _ : Rat => inv (Wh o)) 0 (l := (List.range m).map fun j : Nat => (j : Rat)) (j := 0) (by rw [List.length_map, List.length_range]; exact h0)
    rw [List.map_map] at g
    rw [show (List.range m).map (fun _ => inv (Wh o)) = (List.range m).map ((fun _ : Rat => inv (Wh o)) ∘ fun j : Nat => (j : Rat)) from rfl, g] at this
    exact this
  have sp : spcD .lset (frs ((List.range m).map fun _ => inv (Wh o))) = some (.int ((1 : Nat) : Int)) := by
    show ((tupsO (((List.range m).map fun _ => inv (Wh o)).map fr)).bind fun ks => if ks.length < 64 then some (PyData.int (nub ks).length) else none) = _
    rw [tups_frs, List.map_map, Option.bind_some, if_pos (by rw [List.length_map, List.length_range]; omega)]
    rw [show ((fun q : Rat => [q.num, (q.den : Int)]) ∘ fun _ : Nat => inv (Wh o)) = fun _ => [(inv (Wh o)).num, ((inv (Wh o)).den : Int)] from rfl, nub_const _ _ (fun e => by have := congrArg List.length e; rw [List.length_range] at this; simp at this; omega)]
  unfold t31
  simp only [it_l, it_t, rs_cons, rs_nil, r_asg, r_asg2, r_par2, r_aug, r_own, r_ownC, r_app, r_setP, r_ifs, r_for, r_fgt, r_ret, r_retD, r_retO, r_mv, r_ex, r_brk, r_cont, r_pass, x_v, x_fz, x_int, x_str, x_bl, x_non, x_neg, x_bin, x_cmp, x_chain, x_bop, x_not, x_ite, x_ix, x_sl, xo_no, xo_so, x_tup, x_lst, x_call, x_blt, x_isi, x_mth, x_ixP, x_lenP, x_spc, x_srtK, x_inP, t_inP, r_ownE, r_rem, r_ext, r_augP, r_parL, xs_nil, xs_cons, t_cmp, t_v, t_not, t_bop, t_ite, t_chain, t_isi, t_call, t_gq, t_bl, t_ix, t_bin, t_blt, i_of, n_range1, n_range2, i_zip, i_enum, i_enumz, xc_no, xc_so, fl_nil, fl_cons, bt_n, bt_2, bt_3, wipeE, keepS, backE, ok_bind, ofO_some, datO, List.getElem?_cons_zero, List.getElem?_cons_succ, List.set_cons_zero, List.set_cons_succ, List.map_cons, List.map_nil, dv_add, dv_sub, dv_mul, dv_fdiv, dv_mod, dv_pow, a_int, s_int, d_int, c_le, c_lt, c_gt, c_ge, c_eq, c_ne, e_int, tr_bool, tr_int, tr_none, s_bool, b_bool, b_abs, ip_int, ip_sub, if_true, if_false, eq_self, Bool.not_true, Bool.not_false, Bool.false_eq_true, Bool.true_eq_false, le_0, le_1, le_2, le_3, le_4, ic_lst, endE, Option.map_some, Option.bind_some, c3, c4, i, sp, z1, eq_fr, decide_true]
end
end K28
namespace K28
open PySem N
def u0 : Cm := .asg (.n 3) (.blt .len [(.v 1)])
def u1 : Cm := .asg (.n 4) (.lc (.cmp .eq (.callO 24 0 [(.int 2)]) (.int 0)) (.n 6) (.range1 (.v 3)) .no [6])
def u2 : Cm := .asg (.n 5) (.lst [])
def u3 : Cm := .fgt [6]
def u4 : Cm := .for (.n 6) (.range1 (.v 3)) [.asg (.n 5) (.bin .add (.v 5) (.lc (.call 28 [(.ix (.v 1) (.v 13)), (.ix (.v 1) (.v 6))]) (.n 13) (.range1 (.v 6)) (.so (.bop true (.ix (.v 4) (.v 13)) (.ix (.v 4) (.v 6)))) [13])), .fgt [6]]
def u5 : Cm := .ifs (.cmp .ne (.call 18 [(.v 1), (.v 4)]) (.call 29 [(.v 5)])) [.ret (.bl false)] []
def u6 : Cm := .asg (.n 7) (.call 27 [(.ix (.v 1) (.int 0)), (.tup [(.neg (.int 1)), (.int 1)])])
def u7 : Cm := .ifs (.bop false (.cmp .ne (.call 19 [(.ix (.v 1) (.int 0))]) (.v 7)) (.cmp .ne (.call 20 [(.v 7)]) (.ix (.v 1) (.int 0)))) [.ret (.bl false)] []
def u8 : Cm := .asg (.n 8) (.call 26 [(.int 1), (.bin .add (.int 1) (.callO 24 0 [(.int 5)]))])
def u9 : Cm := .asg (.n 9) (.call 26 [(.v 2), (.int 2)])
def u10 : Cm := .asg (.n 10) (.call 29 [(.bin .add (.bin .mul (.lst [(.call 28 [(.v 9), (.ix (.v 1) (.int 0))])]) (.blt .int [(.ix (.v 4) (.int 0))])) (.bin .mul (.lst [(.call 28 [(.v 9), (.call 27 [(.tup [(.int 1), (.int 1)]), (.call 28 [(.v 7), (.v 8)])])])]) (.blt .int [(.ix (.v 4) (.int 1))])))])
def u11 : Cm := .ifs (.cmp .ne (.call 21 [(.ix (.v 1) (.int 0)), (.v 8), (.tup [(.v 2), (.int 1)]), (.ix (.v 4) (.int 0)), (.ix (.v 4) (.int 1))]) (.v 10)) [.ret (.bl false)] []
def u12 : Cm := .asg (.n 11) (.lst [(.tup [(.tup [(.int 2), (.int 1)]), (.tup [(.int 3), (.int 2)])]), (.tup [(.tup [(.int 2), (.int 1)])]), (.tup [(.tup [(.int 1), (.int 1)]), (.tup [(.int 2), (.int 1)])]), (.tup [(.tup [(.int 4), (.int 2)]), (.tup [(.int 3), (.int 1)])]), (.tup [(.tup [(.int 2), (.int 0)]), (.tup [(.int 3), (.int 1)])]), (.lst [(.tup [(.int 2), (.int 1)]), (.tup [(.int 3), (.int 1)])]), (.tup [(.tup [(.int 2), (.int 1)]), (.tup [(.bl true)])]), .non])
def u13 : Cm := .ret (.cmp .eq (.lc (.call 8 [(.v 12)]) (.n 12) (.of (.v 11)) .no [12]) (.bin .add (.lst [(.bl true)]) (.bin .mul (.lst [(.bl false)]) (.int 7))))
def iu4 : List Cm := [.asg (.n 5) (.bin .add (.v 5) (.lc (.call 28 [(.ix (.v 1) (.v 13)), (.ix (.v 1) (.v 6))]) (.n 13) (.range1 (.v 6)) (.so (.bop true (.ix (.v 4) (.v 13)) (.ix (.v 4) (.v 6)))) [13])), .fgt [6]]
theorem staked_is : b__law_staked = [u0, u1, u2, u3, u4, u5, u6, u7, u8, u9, u10, u11, u12, u13] := rfl
section
variable {s0 s1 s2 s3 s4 s5 s7 s8 s9 s10 s11 : Slot}
theorem nxF {row : List Int} (hr : row ≠ []) (hs : row.length < 1000000) (n : Nat) (m : Int) (h : m ≠ 0) : callF P 18 24 [.m (boxM row n), .d (.int m)] = .ok (.d (.int (drawn row n m)), some (boxM row (n + 1))) := next_ok (P := P) (f := 24) (k := 17) rfl hr n h hs
theorem q0 {o : List Rat} {m : Nat} (ho : ∀ q ∈ o, od q) (lo : o.length = m) (h2 : 2 ≤ m) (hm : m ≤ 4) : run P.C P.sub (callF P 18) u0 [s0, .d (frt o), s2, s3, s4, s5, .u, s7, s8, s9, s10, s11, .u, .u] = .ok (.nx, [s0, .d (frt o), s2, .d (.int (m : Nat)), s4, s5, .u, s7, s8, s9, s10, s11, .u, .u]) := by
  have l := len_frt o
  rw [lo] at l
  unfold u0
  simp only [it_l, it_t, rs_cons, rs_nil, r_asg, r_asg2, r_par2, r_aug, r_own, r_ownC, r_app, r_setP, r_ifs, r_for, r_fgt, r_ret, r_retD, r_retO, r_mv, r_ex, r_brk, r_cont, r_pass, x_v, x_fz, x_int, x_str, x_bl, x_non, x_neg, x_bin, x_cmp, x_chain, x_bop, x_not, x_ite, x_ix, x_sl, xo_no, xo_so, x_tup, x_lst, x_call, x_blt, x_isi, x_mth, x_ixP, x_lenP, x_spc, x_srtK, x_inP, t_inP, r_ownE, r_rem, r_ext, r_augP, r_parL, xs_nil, xs_cons, t_cmp, t_v, t_not, t_bop, t_ite, t_chain, t_isi, t_call, t_gq, t_bl, t_ix, t_bin, t_blt, i_of, n_range1, n_range2, i_zip, i_enum, i_enumz, xc_no, xc_so, fl_nil, fl_cons, bt_n, bt_2, bt_3, wipeE, keepS, backE, ok_bind, ofO_some, datO, List.getElem?_cons_zero, List.getElem?_cons_succ, List.set_cons_zero, List.set_cons_succ, List.map_cons, List.map_nil, dv_add, dv_sub, dv_mul, dv_fdiv, dv_mod, dv_pow, a_int, s_int, d_int, c_le, c_lt, c_gt, c_ge, c_eq, c_ne, e_int, tr_bool, tr_int, tr_none, s_bool, b_bool, b_abs, ip_int, ip_sub, if_true, if_false, eq_self, Bool.not_true, Bool.not_false, Bool.false_eq_true, Bool.true_eq_false, le_0, le_1, le_2, le_3, le_4, ic_lst, endE, Option.map_some, Option.bind_some, l]
theorem q1 {row : List Int} (hr : row ≠ []) (hs : row.length < 1000000) (n : Nat) (m : Nat) (hm : m ≤ 4) : ∃ w : List Bool, w.length = m ∧ run P.C P.sub (callF P 18) u1 [.m true (boxM row n), s1, s2, .d (.int (m : Nat)), s4, s5, .u, s7, s8, s9, s10, s11, .u, .u] = .ok (.nx, [.m true (boxM row (n + m)), s1, s2, .d (.int (m : Nat)), .d (bls w), s5, .u, s7, s8, s9, s10, s11, .u, .u]) := by
  have nx := nxF hr hs
  have r0 := rO_0 m (by omega)
  obtain ⟨ys, l1, q1, e1⟩ := lcX (C := P.C) (fn := callF P 18) (α := Bool) (S0 := fun n => [.m true (boxM row n), s1, s2, .d (.int (m : Nat)), s4, s5, .u, s7, s8, s9, s10, s11, .u, .u]) (S := fun n => [.m true (boxM row n), s1, s2, .d (.int (m : Nat)), s4, s5, .u, s7, s8, s9, s10, s11, .u, .u]) (em := .bool) (Q := fun _ => True) (n := n) (w := 1) (elt := .cmp .eq (.callO 24 0 [(.int 2)]) (.int 0)) (tg := .n 6) (it := .range1 (.v 3)) (own := [6]) (σ := [.m true (boxM row n), s1, s2, .d (.int (m : Nat)), s4, s5, .u, s7, s8, s9, s10, s11, .u, .u]) (xs := (List.range m).map fun j : Nat => PyData.int (j : Int)) (by simp only [it_l, it_t, rs_cons, rs_nil, r_asg, r_asg2, r_par2, r_aug, r_own, r_ownC, r_app, r_setP, r_ifs, r_for, r_fgt, r_ret, r_retD, r_retO, r_mv, r_ex, r_brk, r_cont, r_pass, x_v, x_fz, x_int, x_str, x_bl, x_non, x_neg, x_bin, x_cmp, x_chain, x_bop, x_not, x_ite, x_ix, x_sl, xo_no, xo_so, x_tup, x_lst, x_call, x_blt, x_isi, x_mth, x_ixP, x_lenP, x_spc, x_srtK, x_inP, t_inP, r_ownE, r_rem, r_ext, r_augP, r_parL, xs_nil, xs_cons, t_cmp, t_v, t_not, t_bop, t_ite, t_chain, t_isi, t_call, t_gq, t_bl, t_ix, t_bin, t_blt, i_of, n_range1, n_range2, i_zip, i_enum, i_enumz, xc_no, xc_so, fl_nil, fl_cons, bt_n, bt_2, bt_3, wipeE, keepS, backE, ok_bind, ofO_some, datO, List.getElem?_cons_zero, List.getElem?_cons_succ, List.set_cons_zero, List.set_cons_succ, List.map_cons, List.map_nil, dv_add, dv_sub, dv_mul, dv_fdiv, dv_mod, dv_pow, a_int, s_int, d_int, c_le, c_lt, c_gt, c_ge, c_eq, c_ne, e_int, tr_bool, tr_int, tr_none, s_bool, b_bool, b_abs, ip_int, ip_sub, if_true, if_false, eq_self, Bool.not_true, Bool.not_false, Bool.false_eq_true, Bool.true_eq_false, le_0, le_1, le_2, le_3, le_4, ic_lst, endE, Option.map_some, Option.bind_some, r0]) (by simp only [it_l, it_t, rs_cons, rs_nil, r_asg, r_asg2, r_par2, r_aug, r_own, r_ownC, r_app, r_setP, r_ifs, r_for, r_fgt, r_ret, r_retD, r_retO, r_mv, r_ex, r_brk, r_cont, r_pass, x_v, x_fz, x_int, x_str, x_bl, x_non, x_neg, x_bin, x_cmp, x_chain, x_bop, x_not, x_ite, x_ix, x_sl, xo_no, xo_so, x_tup, x_lst, x_call, x_blt, x_isi, x_mth, x_ixP, x_lenP, x_spc, x_srtK, x_inP, t_inP, r_ownE, r_rem, r_ext, r_augP, r_parL, xs_nil, xs_cons, t_cmp, t_v, t_not, t_bop, t_ite, t_chain, t_isi, t_call, t_gq, t_bl, t_ix, t_bin, t_blt, i_of, n_range1, n_range2, i_zip, i_enum, i_enumz, xc_no, xc_so, fl_nil, fl_cons, bt_n, bt_2, bt_3, wipeE, keepS, backE, ok_bind, ofO_some, datO, List.getElem?_cons_zero, List.getElem?_cons_succ, List.set_cons_zero, List.set_cons_succ, List.map_cons, List.map_nil, dv_add, dv_sub, dv_mul, dv_fdiv, dv_mod, dv_pow, a_int, s_int, d_int, c_le, c_lt, c_gt, c_ge, c_eq, c_ne, e_int, tr_bool, tr_int, tr_none, s_bool, b_bool, b_abs, ip_int, ip_sub, if_true, if_false, eq_self, Bool.not_true, Bool.not_false, Bool.false_eq_true, Bool.true_eq_false, le_0, le_1, le_2, le_3, le_4, ic_lst, endE, Option.map_some, Option.bind_some]) (by rw [List.length_map, List.length_range]; omega) (fun x _ n => by
    refine ⟨drawn row n 2 == 0, trivial, ?_⟩
    simp only [it_l, it_t, rs_cons, rs_nil, r_asg, r_asg2, r_par2, r_aug, r_own, r_ownC, r_app, r_setP, r_ifs, r_for, r_fgt, r_ret, r_retD, r_retO, r_mv, r_ex, r_brk, r_cont, r_pass, x_v, x_fz, x_int, x_str, x_bl, x_non, x_neg, x_bin, x_cmp, x_chain, x_bop, x_not, x_ite, x_ix, x_sl, xo_no, xo_so, x_tup, x_lst, x_call, x_blt, x_isi, x_mth, x_ixP, x_lenP, x_spc, x_srtK, x_inP, t_inP, r_ownE, r_rem, r_ext, r_augP, r_parL, xs_nil, xs_cons, t_cmp, t_v, t_not, t_bop, t_ite, t_chain, t_isi, t_call, t_gq, t_bl, t_ix, t_bin, t_blt, i_of, n_range1, n_range2, i_zip, i_enum, i_enumz, xc_no, xc_so, fl_nil, fl_cons, bt_n, bt_2, bt_3, wipeE, keepS, backE, ok_bind, ofO_some, datO, List.getElem?_cons_zero, List.getElem?_cons_succ, List.set_cons_zero, List.set_cons_succ, List.map_cons, List.map_nil, dv_add, dv_sub, dv_mul, dv_fdiv, dv_mod, dv_pow, a_int, s_int, d_int, c_le, c_lt, c_gt, c_ge, c_eq, c_ne, e_int, tr_bool, tr_int, tr_none, s_bool, b_bool, b_abs, ip_int, ip_sub, if_true, if_false, eq_self, Bool.not_true, Bool.not_false, Bool.false_eq_true, Bool.true_eq_false, le_0, le_1, le_2, le_3, le_4, ic_lst, endE, Option.map_some, Option.bind_some, x_callO, ne_eq, Int.reduceEq, not_false_eq_true, nx])
  rw [List.length_map, List.length_range] at l1 e1
  refine ⟨ys, l1, ?_⟩
  unfold u1
  simp only [it_l, it_t, rs_cons, rs_nil, r_asg, r_asg2, r_par2, r_aug, r_own, r_ownC, r_app, r_setP, r_ifs, r_for, r_fgt, r_ret, r_retD, r_retO, r_mv, r_ex, r_brk, r_cont, r_pass, x_v, x_fz, x_int, x_str, x_bl, x_non, x_neg, x_bin, x_cmp, x_chain, x_bop, x_not, x_ite, x_ix, x_sl, xo_no, xo_so, x_tup, x_lst, x_call, x_blt, x_isi, x_mth, x_ixP, x_lenP, x_spc, x_srtK, x_inP, t_inP, r_ownE, r_rem, r_ext, r_augP, r_parL, xs_nil, xs_cons, t_cmp, t_v, t_not, t_bop, t_ite, t_chain, t_isi, t_call, t_gq, t_bl, t_ix, t_bin, t_blt, i_of, n_range1, n_range2, i_zip, i_enum, i_enumz, xc_no, xc_so, fl_nil, fl_cons, bt_n, bt_2, bt_3, wipeE, keepS, backE, ok_bind, ofO_some, datO, List.getElem?_cons_zero, List.getElem?_cons_succ, List.set_cons_zero, List.set_cons_succ, List.map_cons, List.map_nil, dv_add, dv_sub, dv_mul, dv_fdiv, dv_mod, dv_pow, a_int, s_int, d_int, c_le, c_lt, c_gt, c_ge, c_eq, c_ne, e_int, tr_bool, tr_int, tr_none, s_bool, b_bool, b_abs, ip_int, ip_sub, if_true, if_false, eq_self, Bool.not_true, Bool.not_false, Bool.false_eq_true, Bool.true_eq_false, le_0, le_1, le_2, le_3, le_4, ic_lst, endE, Option.map_some, Option.bind_some, e1]
  rw [Nat.one_mul]
  rfl
theorem q2  : run P.C P.sub (callF P 18) u2 [s0, s1, s2, s3, s4, s5, .u, s7, s8, s9, s10, s11, .u, .u] = .ok (.nx, [s0, s1, s2, s3, s4, .d (frs []), .u, s7, s8, s9, s10, s11, .u, .u]) := by
  unfold u2
  simp only [it_l, it_t, rs_cons, rs_nil, r_asg, r_asg2, r_par2, r_aug, r_own, r_ownC, r_app, r_setP, r_ifs, r_for, r_fgt, r_ret, r_retD, r_retO, r_mv, r_ex, r_brk, r_cont, r_pass, x_v, x_fz, x_int, x_str, x_bl, x_non, x_neg, x_bin, x_cmp, x_chain, x_bop, x_not, x_ite, x_ix, x_sl, xo_no, xo_so, x_tup, x_lst, x_call, x_blt, x_isi, x_mth, x_ixP, x_lenP, x_spc, x_srtK, x_inP, t_inP, r_ownE, r_rem, r_ext, r_augP, r_parL, xs_nil, xs_cons, t_cmp, t_v, t_not, t_bop, t_ite, t_chain, t_isi, t_call, t_gq, t_bl, t_ix, t_bin, t_blt, i_of, n_range1, n_range2, i_zip, i_enum, i_enumz, xc_no, xc_so, fl_nil, fl_cons, bt_n, bt_2, bt_3, wipeE, keepS, backE, ok_bind, ofO_some, datO, List.getElem?_cons_zero, List.getElem?_cons_succ, List.set_cons_zero, List.set_cons_succ, List.map_cons, List.map_nil, dv_add, dv_sub, dv_mul, dv_fdiv, dv_mod, dv_pow, a_int, s_int, d_int, c_le, c_lt, c_gt, c_ge, c_eq, c_ne, e_int, tr_bool, tr_int, tr_none, s_bool, b_bool, b_abs, ip_int, ip_sub, if_true, if_false, eq_self, Bool.not_true, Bool.not_false, Bool.false_eq_true, Bool.true_eq_false, le_0, le_1, le_2, le_3, le_4, ic_lst, endE, Option.map_some, Option.bind_some]
  rfl
theorem q3  : run P.C P.sub (callF P 18) u3 [s0, s1, s2, s3, s4, s5, .u, s7, s8, s9, s10, s11, .u, .u] = .ok (.nx, [s0, s1, s2, s3, s4, s5, .u, s7, s8, s9, s10, s11, .u, .u]) := by
  unfold u3
  simp only [it_l, it_t, rs_cons, rs_nil, r_asg, r_asg2, r_par2, r_aug, r_own, r_ownC, r_app, r_setP, r_ifs, r_for, r_fgt, r_ret, r_retD, r_retO, r_mv, r_ex, r_brk, r_cont, r_pass, x_v, x_fz, x_int, x_str, x_bl, x_non, x_neg, x_bin, x_cmp, x_chain, x_bop, x_not, x_ite, x_ix, x_sl, xo_no, xo_so, x_tup, x_lst, x_call, x_blt, x_isi, x_mth, x_ixP, x_lenP, x_spc, x_srtK, x_inP, t_inP, r_ownE, r_rem, r_ext, r_augP, r_parL, xs_nil, xs_cons, t_cmp, t_v, t_not, t_bop, t_ite, t_chain, t_isi, t_call, t_gq, t_bl, t_ix, t_bin, t_blt, i_of, n_range1, n_range2, i_zip, i_enum, i_enumz, xc_no, xc_so, fl_nil, fl_cons, bt_n, bt_2, bt_3, wipeE, keepS, backE, ok_bind, ofO_some, datO, List.getElem?_cons_zero, List.getElem?_cons_succ, List.set_cons_zero, List.set_cons_succ, List.map_cons, List.map_nil, dv_add, dv_sub, dv_mul, dv_fdiv, dv_mod, dv_pow, a_int, s_int, d_int, c_le, c_lt, c_gt, c_ge, c_eq, c_ne, e_int, tr_bool, tr_int, tr_none, s_bool, b_bool, b_abs, ip_int, ip_sub, if_true, if_false, eq_self, Bool.not_true, Bool.not_false, Bool.false_eq_true, Bool.true_eq_false, le_0, le_1, le_2, le_3, le_4, ic_lst, endE, Option.map_some, Option.bind_some]
theorem dbl_sz {o : List Rat} (ho : ∀ q ∈ o, od q) (w : List Bool) {k : Nat} (hk : k < o.length) : ∀ q ∈ dbl o w k, sz 12 q := fun q hq => by
  unfold dbl at hq
  obtain ⟨j, hj, rfl⟩ := List.mem_map.mp hq
  have hj := List.mem_range.mp (List.mem_filter.mp hj).1
  exact sz_mul (ho _ (getD_mem (by omega))).1 (ho _ (getD_mem (by omega))).1
theorem dbl_len (o : List Rat) (w : List Bool) (k : Nat) : (dbl o w k).length ≤ k := by
  unfold dbl
  rw [List.length_map]
  exact Nat.le_trans (List.length_filter_le _ _) (Nat.le_of_eq List.length_range)
theorem dbls_sz {o : List Rat} (ho : ∀ q ∈ o, od q) (w : List Bool) : ∀ q ∈ dbls o w o.length, sz 12 q := fun q hq => by
  unfold dbls at hq
  obtain ⟨k, hk, h⟩ := List.mem_flatMap.mp hq
  exact dbl_sz ho w (List.mem_range.mp hk) q h
theorem dbls_len (o : List Rat) (w : List Bool) {m : Nat} (hm : m ≤ 4) : (dbls o w m).length ≤ 10 := by
  have : ∀ l : List Nat, (∀ k ∈ l, k ≤ 3) → (l.flatMap (dbl o w)).length ≤ 3 * l.length := fun l => by
    induction l with
    | nil => simp
    | cons k l ih =>
      intro h
      rw [List.flatMap_cons, List.length_append, List.length_cons]
      have := ih fun x hx => h x (List.mem_cons_of_mem _ hx)
      have := dbl_len o w k
      have := h k (List.mem_cons_self ..)
      omega
  have h1 : m = 0 ∨ m = 1 ∨ m = 2 ∨ m = 3 ∨ m = 4 := by omega
  unfold dbls
  rcases h1 with rfl | rfl | rfl | rfl | rfl
  · simp
  · have := this (List.range 1) (by decide); simp only [List.length_range] at this; omega
  · have := this (List.range 2) (by decide); simp only [List.length_range] at this; omega
  · have := this (List.range 3) (by decide); simp only [List.length_range] at this; omega
  · rw [show List.range 4 = [0, 1, 2, 3] from rfl, List.flatMap_cons, List.flatMap_cons, List.flatMap_cons, List.flatMap_cons, List.flatMap_nil]
    have := dbl_len o w 0; have := dbl_len o w 1; have := dbl_len o w 2; have := dbl_len o w 3
    simp only [List.length_append, List.length_nil]
    omega
theorem q4 {o : List Rat} {m : Nat} (ho : ∀ q ∈ o, od q) (lo : o.length = m) (h2 : 2 ≤ m) (hm : m ≤ 4) {w : List Bool} (lw : w.length = m) : run P.C P.sub (callF P 18) u4 [s0, .d (frt o), s2, .d (.int (m : Nat)), .d (bls w), .d (frs []), .u, s7, s8, s9, s10, s11, .u, .u] = .ok (.nx, [s0, .d (frt o), s2, .d (.int (m : Nat)), .d (bls w), .d (frs (dbls o w m)), .u, s7, s8, s9, s10, s11, .u, .u]) := by
  have hL := line_v
  have r0 := rO_0 m (by omega)
  have lp := forL_fold (b := fun x σ => (ofO (bindT (.n 6) x σ)).bind fun σ1 => runs P.C P.sub (callF P 18) iu4 σ1) (em := fun j : Nat => PyData.int (j : Int)) (st := fun z : List Rat => [s0, .d (frt o), s2, .d (.int (m : Nat)), .d (bls w), .d (frs z), .u, s7, s8, s9, s10, s11, .u, .u]) (g := fun z k => z ++ dbl o w k) (fun r z => (∀ k ∈ r, k < m) ∧ z.length + 4 * r.length ≤ 100) (List.range m) [] ⟨fun k hk => List.mem_range.mp hk, by rw [List.length_nil, List.length_range]; omega⟩ (fun k r z ⟨q1, q2⟩ => by
    have hk := q1 k (List.mem_cons_self ..)
    rw [List.length_cons] at q2
    have dl := dbl_len o w k
    refine ⟨?_, fun x hx => q1 x (List.mem_cons_of_mem _ hx), by rw [List.length_append]; omega⟩
    have r1 := rO_0 k (by omega)
    have ik := ix_bls w k (by omega)
    have ok := ix_frt o k (by omega)
    have lf := lcF (C := P.C) (fn := callF P 18) (σ := [s0, .d (frt o), s2, .d (.int (m : Nat)), .d (bls w), .d (frs z), .d (.int (k : Int)), s7, s8, s9, s10, s11, .u, .u]) (elt := .call 28 [(.ix (.v 1) (.v 13)), (.ix (.v 1) (.v 6))]) (tg := .n 13) (it := .range1 (.v 6)) (cs := .bop true (.ix (.v 4) (.v 13)) (.ix (.v 4) (.v 6))) (own := [13]) (l := List.range k) (em := fun j : Nat => PyData.int (j : Int)) (g := fun j => fr (o.getD j 0 * o.getD k 0)) (p := fun j => wn w j k) (by simp only [it_l, it_t, rs_cons, rs_nil, r_asg, r_asg2, r_par2, r_aug, r_own, r_ownC, r_app, r_setP, r_ifs, r_for, r_fgt, r_ret, r_retD, r_retO, r_mv, r_ex, r_brk, r_cont, r_pass, x_v, x_fz, x_int, x_str, x_bl, x_non, x_neg, x_bin, x_cmp, x_chain, x_bop, x_not, x_ite, x_ix, x_sl, xo_no, xo_so, x_tup, x_lst, x_call, x_blt, x_isi, x_mth, x_ixP, x_lenP, x_spc, x_srtK, x_inP, t_inP, r_ownE, r_rem, r_ext, r_augP, r_parL, xs_nil, xs_cons, t_cmp, t_v, t_not, t_bop, t_ite, t_chain, t_isi, t_call, t_gq, t_bl, t_ix, t_bin, t_blt, i_of, n_range1, n_range2, i_zip, i_enum, i_enumz, xc_no, xc_so, fl_nil, fl_cons, bt_n, bt_2, bt_3, wipeE, keepS, backE, ok_bind, ofO_some, datO, List.getElem?_cons_zero, List.getElem?_cons_succ, List.set_cons_zero, List.set_cons_succ, List.map_cons, List.map_nil, dv_add, dv_sub, dv_mul, dv_fdiv, dv_mod, dv_pow, a_int, s_int, d_int, c_le, c_lt, c_gt, c_ge, c_eq, c_ne, e_int, tr_bool, tr_int, tr_none, s_bool, b_bool, b_abs, ip_int, ip_sub, if_true, if_false, eq_self, Bool.not_true, Bool.not_false, Bool.false_eq_true, Bool.true_eq_false, le_0, le_1, le_2, le_3, le_4, ic_lst, endE, Option.map_some, Option.bind_some, r1]) (by rw [List.length_range]; omega) (fun j hj => by
      have hj := List.mem_range.mp hj
      have ij := ix_bls w j (by omega)
      have oj := ix_frt o j (by omega)
      have c : callF P 18 28 [.d (fr (o.getD j 0)), .d (fr (o.getD k 0))] = _ := timesL 15 (ho _ (getD_mem (r := o) (j := j) (by omega))).1 (ho _ (getD_mem (r := o) (j := k) (by omega))).1 (by omega)
      unfold wn
      cases h1 : w.getD j false <;> cases h2 : w.getD k false <;> rw [h1] at ij <;> rw [h2] at ik
      · simp only [it_l, it_t, rs_cons, rs_nil, r_asg, r_asg2, r_par2, r_aug, r_own, r_ownC, r_app, r_setP, r_ifs, r_for, r_fgt, r_ret, r_retD, r_retO, r_mv, r_ex, r_brk, r_cont, r_pass, x_v, x_fz, x_int, x_str, x_bl, x_non, x_neg, x_bin, x_cmp, x_chain, x_bop, x_not, x_ite, x_ix, x_sl, xo_no, xo_so, x_tup, x_lst, x_call, x_blt, x_isi, x_mth, x_ixP, x_lenP, x_spc, x_srtK, x_inP, t_inP, r_ownE, r_rem, r_ext, r_augP, r_parL, xs_nil, xs_cons, t_cmp, t_v, t_not, t_bop, t_ite, t_chain, t_isi, t_call, t_gq, t_bl, t_ix, t_bin, t_blt, i_of, n_range1, n_range2, i_zip, i_enum, i_enumz, xc_no, xc_so, fl_nil, fl_cons, bt_n, bt_2, bt_3, wipeE, keepS, backE, ok_bind, ofO_some, datO, List.getElem?_cons_zero, List.getElem?_cons_succ, List.set_cons_zero, List.set_cons_succ, List.map_cons, List.map_nil, dv_add, dv_sub, dv_mul, dv_fdiv, dv_mod, dv_pow, a_int, s_int, d_int, c_le, c_lt, c_gt, c_ge, c_eq, c_ne, e_int, tr_bool, tr_int, tr_none, s_bool, b_bool, b_abs, ip_int, ip_sub, if_true, if_false, eq_self, Bool.not_true, Bool.not_false, Bool.false_eq_true, Bool.true_eq_false, le_0, le_1, le_2, le_3, le_4, ic_lst, endE, Option.map_some, Option.bind_some, ij, ik]; simp
      · simp only [it_l, it_t, rs_cons, rs_nil, r_asg, r_asg2, r_par2, r_aug, r_own, r_ownC, r_app, r_setP, r_ifs, r_for, r_fgt, r_ret, r_retD, r_retO, r_mv, r_ex, r_brk, r_cont, r_pass, x_v, x_fz, x_int, x_str, x_bl, x_non, x_neg, x_bin, x_cmp, x_chain, x_bop, x_not, x_ite, x_ix, x_sl, xo_no, xo_so, x_tup, x_lst, x_call, x_blt, x_isi, x_mth, x_ixP, x_lenP, x_spc, x_srtK, x_inP, t_inP, r_ownE, r_rem, r_ext, r_augP, r_parL, xs_nil, xs_cons, t_cmp, t_v, t_not, t_bop, t_ite, t_chain, t_isi, t_call, t_gq, t_bl, t_ix, t_bin, t_blt, i_of, n_range1, n_range2, i_zip, i_enum, i_enumz, xc_no, xc_so, fl_nil, fl_cons, bt_n, bt_2, bt_3, wipeE, keepS, backE, ok_bind, ofO_some, datO, List.getElem?_cons_zero, List.getElem?_cons_succ, List.set_cons_zero, List.set_cons_succ, List.map_cons, List.map_nil, dv_add, dv_sub, dv_mul, dv_fdiv, dv_mod, dv_pow, a_int, s_int, d_int, c_le, c_lt, c_gt, c_ge, c_eq, c_ne, e_int, tr_bool, tr_int, tr_none, s_bool, b_bool, b_abs, ip_int, ip_sub, if_true, if_false, eq_self, Bool.not_true, Bool.not_false, Bool.false_eq_true, Bool.true_eq_false, le_0, le_1, le_2, le_3, le_4, ic_lst, endE, Option.map_some, Option.bind_some, ij, ik]; simp
      · simp only [it_l, it_t, rs_cons, rs_nil, r_asg, r_asg2, r_par2, r_aug, r_own, r_ownC, r_app, r_setP, r_ifs, r_for, r_fgt, r_ret, r_retD, r_retO, r_mv, r_ex, r_brk, r_cont, r_pass, x_v, x_fz, x_int, x_str, x_bl, x_non, x_neg, x_bin, x_cmp, x_chain, x_bop, x_not, x_ite, x_ix, x_sl, xo_no, xo_so, x_tup, x_lst, x_call, x_blt, x_isi, x_mth, x_ixP, x_lenP, x_spc, x_srtK, x_inP, t_inP, r_ownE, r_rem, r_ext, r_augP, r_parL, xs_nil, xs_cons, t_cmp, t_v, t_not, t_bop, t_ite, t_chain, t_isi, t_call, t_gq, t_bl, t_ix, t_bin, t_blt, i_of, n_range1, n_range2, i_zip, i_enum, i_enumz, xc_no, xc_so, fl_nil, fl_cons, bt_n, bt_2, bt_3, wipeE, keepS, backE, ok_bind, ofO_some, datO, List.getElem?_cons_zero, List.getElem?_cons_succ, List.set_cons_zero, List.set_cons_succ, List.map_cons, List.map_nil, dv_add, dv_sub, dv_mul, dv_fdiv, dv_mod, dv_pow, a_int, s_int, d_int, c_le, c_lt, c_gt, c_ge, c_eq, c_ne, e_int, tr_bool, tr_int, tr_none, s_bool, b_bool, b_abs, ip_int, ip_sub, if_true, if_false, eq_self, Bool.not_true, Bool.not_false, Bool.false_eq_true, Bool.true_eq_false, le_0, le_1, le_2, le_3, le_4, ic_lst, endE, Option.map_some, Option.bind_some, ij, ik]; simp
      · simp only [it_l, it_t, rs_cons, rs_nil, r_asg, r_asg2, r_par2, r_aug, r_own, r_ownC, r_app, r_setP, r_ifs, r_for, r_fgt, r_ret, r_retD, r_retO, r_mv, r_ex, r_brk, r_cont, r_pass, x_v, x_fz, x_int, x_str, x_bl, x_non, x_neg, x_bin, x_cmp, x_chain, x_bop, x_not, x_ite, x_ix, x_sl, xo_no, xo_so, x_tup, x_lst, x_call, x_blt, x_isi, x_mth, x_ixP, x_lenP, x_spc, x_srtK, x_inP, t_inP, r_ownE, r_rem, r_ext, r_augP, r_parL, xs_nil, xs_cons, t_cmp, t_v, t_not, t_bop, t_ite, t_chain, t_isi, t_call, t_gq, t_bl, t_ix, t_bin, t_blt, i_of, n_range1, n_range2, i_zip, i_enum, i_enumz, xc_no, xc_so, fl_nil, fl_cons, bt_n, bt_2, bt_3, wipeE, keepS, backE, ok_bind, ofO_some, datO, List.getElem?_cons_zero, List.getElem?_cons_succ, List.set_cons_zero, List.set_cons_succ, List.map_cons, List.map_nil, dv_add, dv_sub, dv_mul, dv_fdiv, dv_mod, dv_pow, a_int, s_int, d_int, c_le, c_lt, c_gt, c_ge, c_eq, c_ne, e_int, tr_bool, tr_int, tr_none, s_bool, b_bool, b_abs, ip_int, ip_sub, if_true, if_false, eq_self, Bool.not_true, Bool.not_false, Bool.false_eq_true, Bool.true_eq_false, le_0, le_1, le_2, le_3, le_4, ic_lst, endE, Option.map_some, Option.bind_some, ij, ik, oj, ok, c]; simp)
    have e1 : (PyData.list (((List.range k).filter fun j => wn w j k).map fun j => fr (o.getD j 0 * o.getD k 0)) : D) = frs (dbl o w k) := by unfold dbl frs; rw [List.map_map]; rfl
    have e2 : addD (frs z) (frs (dbl o w k)) = some (frs (z ++ dbl o w k)) := by
      unfold frs
      rw [a_list (by rw [List.length_map, List.length_map]; omega), List.map_append]
    unfold iu4
    simp only [it_l, it_t, rs_cons, rs_nil, r_asg, r_asg2, r_par2, r_aug, r_own, r_ownC, r_app, r_setP, r_ifs, r_for, r_fgt, r_ret, r_retD, r_retO, r_mv, r_ex, r_brk, r_cont, r_pass, x_v, x_fz, x_int, x_str, x_bl, x_non, x_neg, x_bin, x_cmp, x_chain, x_bop, x_not, x_ite, x_ix, x_sl, xo_no, xo_so, x_tup, x_lst, x_call, x_blt, x_isi, x_mth, x_ixP, x_lenP, x_spc, x_srtK, x_inP, t_inP, r_ownE, r_rem, r_ext, r_augP, r_parL, xs_nil, xs_cons, t_cmp, t_v, t_not, t_bop, t_ite, t_chain, t_isi, t_call, t_gq, t_bl, t_ix, t_bin, t_blt, i_of, n_range1, n_range2, i_zip, i_enum, i_enumz, xc_no, xc_so, fl_nil, fl_cons, bt_n, bt_2, bt_3, wipeE, keepS, backE, ok_bind, ofO_some, datO, List.getElem?_cons_zero, List.getElem?_cons_succ, List.set_cons_zero, List.set_cons_succ, List.map_cons, List.map_nil, dv_add, dv_sub, dv_mul, dv_fdiv, dv_mod, dv_pow, a_int, s_int, d_int, c_le, c_lt, c_gt, c_ge, c_eq, c_ne, e_int, tr_bool, tr_int, tr_none, s_bool, b_bool, b_abs, ip_int, ip_sub, if_true, if_false, eq_self, Bool.not_true, Bool.not_false, Bool.false_eq_true, Bool.true_eq_false, le_0, le_1, le_2, le_3, le_4, ic_lst, endE, Option.map_some, Option.bind_some, lf, e1, e2])
  have lp1 := lp.1
  have e : (List.range m).foldl (fun z k => z ++ dbl o w k) [] = dbls o w m := by
    have : ∀ (l : List Nat) (z : List Rat), l.foldl (fun z k => z ++ dbl o w k) z = z ++ l.flatMap (dbl o w) := fun l => by
      induction l with
      | nil => intro z; simp
      | cons a l ih => intro z; rw [List.foldl_cons, ih]; simp
    rw [this]
    rfl
  rw [e] at lp1
  rw [show u4 = .for (.n 6) (.range1 (.v 3)) iu4 from rfl, r_for]
  simp only [it_l, it_t, rs_cons, rs_nil, r_asg, r_asg2, r_par2, r_aug, r_own, r_ownC, r_app, r_setP, r_ifs, r_for, r_fgt, r_ret, r_retD, r_retO, r_mv, r_ex, r_brk, r_cont, r_pass, x_v, x_fz, x_int, x_str, x_bl, x_non, x_neg, x_bin, x_cmp, x_chain, x_bop, x_not, x_ite, x_ix, x_sl, xo_no, xo_so, x_tup, x_lst, x_call, x_blt, x_isi, x_mth, x_ixP, x_lenP, x_spc, x_srtK, x_inP, t_inP, r_ownE, r_rem, r_ext, r_augP, r_parL, xs_nil, xs_cons, t_cmp, t_v, t_not, t_bop, t_ite, t_chain, t_isi, t_call, t_gq, t_bl, t_ix, t_bin, t_blt, i_of, n_range1, n_range2, i_zip, i_enum, i_enumz, xc_no, xc_so, fl_nil, fl_cons, bt_n, bt_2, bt_3, wipeE, keepS, backE, ok_bind, ofO_some, datO, List.getElem?_cons_zero, List.getElem?_cons_succ, List.set_cons_zero, List.set_cons_succ, List.map_cons, List.map_nil, dv_add, dv_sub, dv_mul, dv_fdiv, dv_mod, dv_pow, a_int, s_int, d_int, c_le, c_lt, c_gt, c_ge, c_eq, c_ne, e_int, tr_bool, tr_int, tr_none, s_bool, b_bool, b_abs, ip_int, ip_sub, if_true, if_false, eq_self, Bool.not_true, Bool.not_false, Bool.false_eq_true, Bool.true_eq_false, le_0, le_1, le_2, le_3, le_4, ic_lst, endE, Option.map_some, Option.bind_some, r0]
  simp only [it_l, it_t, rs_cons, rs_nil, r_asg, r_asg2, r_par2, r_aug, r_own, r_ownC, r_app, r_setP, r_ifs, r_for, r_fgt, r_ret, r_retD, r_retO, r_mv, r_ex, r_brk, r_cont, r_pass, x_v, x_fz, x_int, x_str, x_bl, x_non, x_neg, x_bin, x_cmp, x_chain, x_bop, x_not, x_ite, x_ix, x_sl, xo_no, xo_so, x_tup, x_lst, x_call, x_blt, x_isi, x_mth, x_ixP, x_lenP, x_spc, x_srtK, x_inP, t_inP, r_ownE, r_rem, r_ext, r_augP, r_parL, xs_nil, xs_cons, t_cmp, t_v, t_not, t_bop, t_ite, t_chain, t_isi, t_call, t_gq, t_bl, t_ix, t_bin, t_blt, i_of, n_range1, n_range2, i_zip, i_enum, i_enumz, xc_no, xc_so, fl_nil, fl_cons, bt_n, bt_2, bt_3, wipeE, keepS, backE, ok_bind, ofO_some, datO, List.getElem?_cons_zero, List.getElem?_cons_succ, List.set_cons_zero, List.set_cons_succ, List.map_cons, List.map_nil, dv_add, dv_sub, dv_mul, dv_fdiv, dv_mod, dv_pow, a_int, s_int, d_int, c_le, c_lt, c_gt, c_ge, c_eq, c_ne, e_int, tr_bool, tr_int, tr_none, s_bool, b_bool, b_abs, ip_int, ip_sub, if_true, if_false, eq_self, Bool.not_true, Bool.not_false, Bool.false_eq_true, Bool.true_eq_false, le_0, le_1, le_2, le_3, le_4, ic_lst, endE, Option.map_some, Option.bind_some] at lp1
  exact lp1
theorem q5 {o : List Rat} {m : Nat} (ho : ∀ q ∈ o, od q) (lo : o.length = m) (h2 : 2 ≤ m) (hm : m ≤ 4){w : List Bool} (lw : w.length = m) : run P.C P.sub (callF P 18) u5 [s0, .d (frt o), s2, .d (.int (m : Nat)), .d (bls w), .d (frs (dbls o w m)), .u, s7, s8, s9, s10, s11, .u, .u] = .ok (.nx, [s0, .d (frt o), s2, .d (.int (m : Nat)), .d (bls w), .d (frs (dbls o w m)), .u, s7, s8, s9, s10, s11, .u, .u]) := by
  have c1 : callF P 18 18 [.d (frt o), .d (bls w)] = _ := w_dbl 14 hm lo lw (fun q hq => (ho q hq).1)
  have dz := dbls_sz ho w
  rw [lo] at dz
  have c2 : callF P 18 29 [.d (frs (dbls o w m))] = _ := sumL 14 (i := 12) (dbls o w m) dz (by have := dbls_len o w hm; omega) rfl
  unfold u5
  simp only [it_l, it_t, rs_cons, rs_nil, r_asg, r_asg2, r_par2, r_aug, r_own, r_ownC, r_app, r_setP, r_ifs, r_for, r_fgt, r_ret, r_retD, r_retO, r_mv, r_ex, r_brk, r_cont, r_pass, x_v, x_fz, x_int, x_str, x_bl, x_non, x_neg, x_bin, x_cmp, x_chain, x_bop, x_not, x_ite, x_ix, x_sl, xo_no, xo_so, x_tup, x_lst, x_call, x_blt, x_isi, x_mth, x_ixP, x_lenP, x_spc, x_srtK, x_inP, t_inP, r_ownE, r_rem, r_ext, r_augP, r_parL, xs_nil, xs_cons, t_cmp, t_v, t_not, t_bop, t_ite, t_chain, t_isi, t_call, t_gq, t_bl, t_ix, t_bin, t_blt, i_of, n_range1, n_range2, i_zip, i_enum, i_enumz, xc_no, xc_so, fl_nil, fl_cons, bt_n, bt_2, bt_3, wipeE, keepS, backE, ok_bind, ofO_some, datO, List.getElem?_cons_zero, List.getElem?_cons_succ, List.set_cons_zero, List.set_cons_succ, List.map_cons, List.map_nil, dv_add, dv_sub, dv_mul, dv_fdiv, dv_mod, dv_pow, a_int, s_int, d_int, c_le, c_lt, c_gt, c_ge, c_eq, c_ne, e_int, tr_bool, tr_int, tr_none, s_bool, b_bool, b_abs, ip_int, ip_sub, if_true, if_false, eq_self, Bool.not_true, Bool.not_false, Bool.false_eq_true, Bool.true_eq_false, le_0, le_1, le_2, le_3, le_4, ic_lst, endE, Option.map_some, Option.bind_some, c1, c2, eq_fr, decide_true]
theorem q6 {o : List Rat} {m : Nat} (ho : ∀ q ∈ o, od q) (lo : o.length = m) (h2 : 2 ≤ m) (hm : m ≤ 4) : run P.C P.sub (callF P 18) u6 [s0, .d (frt o), s2, s3, s4, s5, .u, s7, s8, s9, s10, s11, .u, .u] = .ok (.nx, [s0, .d (frt o), s2, s3, s4, s5, .u, .d (fr (o.getD 0 0 - 1)), s8, s9, s10, s11, .u, .u]) := by
  have o0 : od (o.getD 0 0) := ho _ (getD_mem (by omega))
  have i0 : idxD (frt o) (.int 0) = some (fr (o.getD 0 0)) := ix_frt o 0 (by omega)
  have c : callF P 18 27 [.d (fr (o.getD 0 0)), .d (fr (-1))] = _ := plusL 15 o0.1 (sz_neg sz1) (by omega)
  rw [← Rat.sub_eq_add_neg] at c
  unfold u6
  simp only [it_l, it_t, rs_cons, rs_nil, r_asg, r_asg2, r_par2, r_aug, r_own, r_ownC, r_app, r_setP, r_ifs, r_for, r_fgt, r_ret, r_retD, r_retO, r_mv, r_ex, r_brk, r_cont, r_pass, x_v, x_fz, x_int, x_str, x_bl, x_non, x_neg, x_bin, x_cmp, x_chain, x_bop, x_not, x_ite, x_ix, x_sl, xo_no, xo_so, x_tup, x_lst, x_call, x_blt, x_isi, x_mth, x_ixP, x_lenP, x_spc, x_srtK, x_inP, t_inP, r_ownE, r_rem, r_ext, r_augP, r_parL, xs_nil, xs_cons, t_cmp, t_v, t_not, t_bop, t_ite, t_chain, t_isi, t_call, t_gq, t_bl, t_ix, t_bin, t_blt, i_of, n_range1, n_range2, i_zip, i_enum, i_enumz, xc_no, xc_so, fl_nil, fl_cons, bt_n, bt_2, bt_3, wipeE, keepS, backE, ok_bind, ofO_some, datO, List.getElem?_cons_zero, List.getElem?_cons_succ, List.set_cons_zero, List.set_cons_succ, List.map_cons, List.map_nil, dv_add, dv_sub, dv_mul, dv_fdiv, dv_mod, dv_pow, a_int, s_int, d_int, c_le, c_lt, c_gt, c_ge, c_eq, c_ne, e_int, tr_bool, tr_int, tr_none, s_bool, b_bool, b_abs, ip_int, ip_sub, if_true, if_false, eq_self, Bool.not_true, Bool.not_false, Bool.false_eq_true, Bool.true_eq_false, le_0, le_1, le_2, le_3, le_4, ic_lst, endE, Option.map_some, Option.bind_some, i0, fr_m1, c]
theorem q7 {o : List Rat} {m : Nat} (ho : ∀ q ∈ o, od q) (lo : o.length = m) (h2 : 2 ≤ m) (hm : m ≤ 4) : run P.C P.sub (callF P 18) u7 [s0, .d (frt o), s2, s3, s4, s5, .u, .d (fr (o.getD 0 0 - 1)), s8, s9, s10, s11, .u, .u] = .ok (.nx, [s0, .d (frt o), s2, s3, s4, s5, .u, .d (fr (o.getD 0 0 - 1)), s8, s9, s10, s11, .u, .u]) := by
  have o0 : od (o.getD 0 0) := ho _ (getD_mem (by omega))
  have i0 : idxD (frt o) (.int 0) = some (fr (o.getD 0 0)) := ix_frt o 0 (by omega)
  have c1 : callF P 18 19 [.d (fr (o.getD 0 0))] = _ := w_asr 15 o0.1
  have c2 : callF P 18 20 [.d (fr (o.getD 0 0 - 1))] = _ := w_fromr 14 (sz_sub o0.1 sz1) (by omega)
  rw [show o.getD 0 0 - 1 + 1 = o.getD 0 0 by grind] at c2
  unfold u7
  simp only [it_l, it_t, rs_cons, rs_nil, r_asg, r_asg2, r_par2, r_aug, r_own, r_ownC, r_app, r_setP, r_ifs, r_for, r_fgt, r_ret, r_retD, r_retO, r_mv, r_ex, r_brk, r_cont, r_pass, x_v, x_fz, x_int, x_str, x_bl, x_non, x_neg, x_bin, x_cmp, x_chain, x_bop, x_not, x_ite, x_ix, x_sl, xo_no, xo_so, x_tup, x_lst, x_call, x_blt, x_isi, x_mth, x_ixP, x_lenP, x_spc, x_srtK, x_inP, t_inP, r_ownE, r_rem, r_ext, r_augP, r_parL, xs_nil, xs_cons, t_cmp, t_v, t_not, t_bop, t_ite, t_chain, t_isi, t_call, t_gq, t_bl, t_ix, t_bin, t_blt, i_of, n_range1, n_range2, i_zip, i_enum, i_enumz, xc_no, xc_so, fl_nil, fl_cons, bt_n, bt_2, bt_3, wipeE, keepS, backE, ok_bind, ofO_some, datO, List.getElem?_cons_zero, List.getElem?_cons_succ, List.set_cons_zero, List.set_cons_succ, List.map_cons, List.map_nil, dv_add, dv_sub, dv_mul, dv_fdiv, dv_mod, dv_pow, a_int, s_int, d_int, c_le, c_lt, c_gt, c_ge, c_eq, c_ne, e_int, tr_bool, tr_int, tr_none, s_bool, b_bool, b_abs, ip_int, ip_sub, if_true, if_false, eq_self, Bool.not_true, Bool.not_false, Bool.false_eq_true, Bool.true_eq_false, le_0, le_1, le_2, le_3, le_4, ic_lst, endE, Option.map_some, Option.bind_some, i0, c1, c2, eq_fr, decide_true]
theorem q8 {row : List Int} (hr : row ≠ []) (hs : row.length < 1000000) (n : Nat) : ∃ p, sz 4 p ∧ run P.C P.sub (callF P 18) u8 [.m true (boxM row n), s1, s2, s3, s4, s5, .u, s7, s8, s9, s10, s11, .u, .u] = .ok (.nx, [.m true (boxM row (n + 1)), s1, s2, s3, s4, s5, .u, s7, .d (fr p), s9, s10, s11, .u, .u]) := by
  have nx := nxF hr hs
  have g := drawn_rng row n (m := 5) (by decide)
  have c : callF P 18 26 [.d (.int 1), .d (.int (1 + drawn row n 5))] = _ := fracL 16 _ _ (by omega) (Nat.lt_of_lt_of_le (show (1 + drawn row n 5).natAbs < 2 ^ 6 by omega) (Nat.pow_le_pow_right (by decide) (by decide)))
  refine ⟨_, sz_divInt (k := 4) (a := 1) (b := 1 + drawn row n 5) (by decide) (by omega) (by omega), ?_⟩
  unfold u8
  simp only [it_l, it_t, rs_cons, rs_nil, r_asg, r_asg2, r_par2, r_aug, r_own, r_ownC, r_app, r_setP, r_ifs, r_for, r_fgt, r_ret, r_retD, r_retO, r_mv, r_ex, r_brk, r_cont, r_pass, x_v, x_fz, x_int, x_str, x_bl, x_non, x_neg, x_bin, x_cmp, x_chain, x_bop, x_not, x_ite, x_ix, x_sl, xo_no, xo_so, x_tup, x_lst, x_call, x_blt, x_isi, x_mth, x_ixP, x_lenP, x_spc, x_srtK, x_inP, t_inP, r_ownE, r_rem, r_ext, r_augP, r_parL, xs_nil, xs_cons, t_cmp, t_v, t_not, t_bop, t_ite, t_chain, t_isi, t_call, t_gq, t_bl, t_ix, t_bin, t_blt, i_of, n_range1, n_range2, i_zip, i_enum, i_enumz, xc_no, xc_so, fl_nil, fl_cons, bt_n, bt_2, bt_3, wipeE, keepS, backE, ok_bind, ofO_some, datO, List.getElem?_cons_zero, List.getElem?_cons_succ, List.set_cons_zero, List.set_cons_succ, List.map_cons, List.map_nil, dv_add, dv_sub, dv_mul, dv_fdiv, dv_mod, dv_pow, a_int, s_int, d_int, c_le, c_lt, c_gt, c_ge, c_eq, c_ne, e_int, tr_bool, tr_int, tr_none, s_bool, b_bool, b_abs, ip_int, ip_sub, if_true, if_false, eq_self, Bool.not_true, Bool.not_false, Bool.false_eq_true, Bool.true_eq_false, le_0, le_1, le_2, le_3, le_4, ic_lst, endE, Option.map_some, Option.bind_some, x_callO, ne_eq, Int.reduceEq, not_false_eq_true, nx, c]
theorem q9 (s : Nat) (hs : s ≤ 100) : run P.C P.sub (callF P 18) u9 [s0, s1, .d (.int (s : Nat)), s3, s4, s5, .u, s7, s8, s9, s10, s11, .u, .u] = .ok (.nx, [s0, s1, .d (.int (s : Nat)), s3, s4, s5, .u, s7, s8, .d (fr ((s : Rat) / 2)), s10, s11, .u, .u]) := by
  have c : callF P 18 26 [.d (.int (s : Nat)), .d (.int 2)] = _ := fracL 16 _ _ (by omega) (Nat.lt_of_lt_of_le (show (2 : Int).natAbs < 2 ^ 6 by decide) (Nat.pow_le_pow_right (by decide) (by decide)))
  rw [show Rat.divInt ((s : Nat) : Int) 2 = (s : Rat) / 2 by rw [Rat.divInt_eq_div]; rfl] at c
  unfold u9
  simp only [it_l, it_t, rs_cons, rs_nil, r_asg, r_asg2, r_par2, r_aug, r_own, r_ownC, r_app, r_setP, r_ifs, r_for, r_fgt, r_ret, r_retD, r_retO, r_mv, r_ex, r_brk, r_cont, r_pass, x_v, x_fz, x_int, x_str, x_bl, x_non, x_neg, x_bin, x_cmp, x_chain, x_bop, x_not, x_ite, x_ix, x_sl, xo_no, xo_so, x_tup, x_lst, x_call, x_blt, x_isi, x_mth, x_ixP, x_lenP, x_spc, x_srtK, x_inP, t_inP, r_ownE, r_rem, r_ext, r_augP, r_parL, xs_nil, xs_cons, t_cmp, t_v, t_not, t_bop, t_ite, t_chain, t_isi, t_call, t_gq, t_bl, t_ix, t_bin, t_blt, i_of, n_range1, n_range2, i_zip, i_enum, i_enumz, xc_no, xc_so, fl_nil, fl_cons, bt_n, bt_2, bt_3, wipeE, keepS, backE, ok_bind, ofO_some, datO, List.getElem?_cons_zero, List.getElem?_cons_succ, List.set_cons_zero, List.set_cons_succ, List.map_cons, List.map_nil, dv_add, dv_sub, dv_mul, dv_fdiv, dv_mod, dv_pow, a_int, s_int, d_int, c_le, c_lt, c_gt, c_ge, c_eq, c_ne, e_int, tr_bool, tr_int, tr_none, s_bool, b_bool, b_abs, ip_int, ip_sub, if_true, if_false, eq_self, Bool.not_true, Bool.not_false, Bool.false_eq_true, Bool.true_eq_false, le_0, le_1, le_2, le_3, le_4, ic_lst, endE, Option.map_some, Option.bind_some, c]
theorem bw_ew (o p h : Rat) (a b : Bool) : rsum ((if a then [h * o] else []) ++ (if b then [h * (1 + (o - 1) * p)] else [])) = ew o p h a b := by
  unfold ew rsum
  cases a <;> cases b <;> rfl
theorem m_list1 (x : D) (b : Bool) : mulD (.list [x]) (.int (b2 b)) = some (.list (if b then [x] else [])) := by
  cases b <;> kernel_rfl
theorem q10 {o : List Rat} {m : Nat} (ho : ∀ q ∈ o, od q) (lo : o.length = m) (h2 : 2 ≤ m) (hm : m ≤ 4){w : List Bool} (lw : w.length = m){p : Rat} (hp : sz 4 p) {s : Nat} (hs : s ≤ 100) : run P.C P.sub (callF P 18) u10 [s0, .d (frt o), s2, s3, .d (bls w), s5, .u, .d (fr (o.getD 0 0 - 1)), .d (fr p), .d (fr ((s : Rat) / 2)), s10, s11, .u, .u] = .ok (.nx, [s0, .d (frt o), s2, s3, .d (bls w), s5, .u, .d (fr (o.getD 0 0 - 1)), .d (fr p), .d (fr ((s : Rat) / 2)), .d (fr (ew (o.getD 0 0) p ((s : Rat) / 2) (w.getD 0 false) (w.getD 1 false))), s11, .u, .u]) := by
  have o0 : od (o.getD 0 0) := ho _ (getD_mem (by omega))
  have i0 : idxD (frt o) (.int 0) = some (fr (o.getD 0 0)) := ix_frt o 0 (by omega)
  have hL := line_v
  have w0 : idxD (bls w) (.int 0) = some (.bool (w.getD 0 false)) := ix_bls w 0 (by omega)
  have w1 : idxD (bls w) (.int 1) = some (.bool (w.getD 1 false)) := ix_bls w 1 (by omega)
  have s2 : sz 2 2 := ⟨by decide, by decide⟩
  have n2 : (2 : Rat) ≠ 0 := by decide
  have sh : sz 10 ((s : Rat) / 2) := sz_mono (sz_div (sz_s hs) s2 n2) (by omega)
  have c1 : callF P 18 28 [.d (fr ((s : Rat) / 2)), .d (fr (o.getD 0 0))] = _ := timesL 15 sh o0.1 (by omega)
  have e4 : sz 8 (o.getD 0 0 - 1) := sz_sub o0.1 sz1
  have c5 : callF P 18 28 [.d (fr (o.getD 0 0 - 1)), .d (fr p)] = _ := timesL 15 e4 hp (by omega)
  have e5 : sz 12 ((o.getD 0 0 - 1) * p) := sz_mul e4 hp
  have c6 : callF P 18 27 [.d (fr 1), .d (fr ((o.getD 0 0 - 1) * p))] = _ := plusL 15 sz1 e5 (by omega)
  have e6 : sz 14 (1 + (o.getD 0 0 - 1) * p) := sz_add sz1 e5
  have c7 : callF P 18 28 [.d (fr ((s : Rat) / 2)), .d (fr (1 + (o.getD 0 0 - 1) * p))] = _ := timesL 15 sh e6 (by omega)
  have e7 : sz 24 ((s : Rat) / 2 * (1 + (o.getD 0 0 - 1) * p)) := sz_mul sh e6
  have e8 : sz 24 ((s : Rat) / 2 * o.getD 0 0) := sz_mono (sz_mul sh o0.1) (by omega)
  generalize hx : (s : Rat) / 2 * o.getD 0 0 = x at c1 e8
  generalize hy : (s : Rat) / 2 * (1 + (o.getD 0 0 - 1) * p) = y at c7 e7
  have c8 : callF P 18 29 [.d (frs ((if w.getD 0 false then [x] else []) ++ (if w.getD 1 false then [y] else [])))] = _ := sumL 14 (i := 24) _ (by
    intro q hq
    rcases List.mem_append.mp hq with hq | hq <;> split at hq <;> simp at hq <;> subst hq <;> assumption) (by
    cases w.getD 0 false <;> cases w.getD 1 false <;> simp) rfl
  rw [← hx, ← hy, bw_ew] at c8
  have e9 : addD (.list (if w.getD 0 false then [fr x] else [])) (.list (if w.getD 1 false then [fr y] else [])) = some (frs ((if w.getD 0 false then [x] else []) ++ (if w.getD 1 false then [y] else []))) := by
    cases w.getD 0 false <;> cases w.getD 1 false <;> kernel_rfl
  rw [← hx, ← hy] at e9
  subst hx hy
  unfold u10
  simp only [it_l, it_t, rs_cons, rs_nil, r_asg, r_asg2, r_par2, r_aug, r_own, r_ownC, r_app, r_setP, r_ifs, r_for, r_fgt, r_ret, r_retD, r_retO, r_mv, r_ex, r_brk, r_cont, r_pass, x_v, x_fz, x_int, x_str, x_bl, x_non, x_neg, x_bin, x_cmp, x_chain, x_bop, x_not, x_ite, x_ix, x_sl, xo_no, xo_so, x_tup, x_lst, x_call, x_blt, x_isi, x_mth, x_ixP, x_lenP, x_spc, x_srtK, x_inP, t_inP, r_ownE, r_rem, r_ext, r_augP, r_parL, xs_nil, xs_cons, t_cmp, t_v, t_not, t_bop, t_ite, t_chain, t_isi, t_call, t_gq, t_bl, t_ix, t_bin, t_blt, i_of, n_range1, n_range2, i_zip, i_enum, i_enumz, xc_no, xc_so, fl_nil, fl_cons, bt_n, bt_2, bt_3, wipeE, keepS, backE, ok_bind, ofO_some, datO, List.getElem?_cons_zero, List.getElem?_cons_succ, List.set_cons_zero, List.set_cons_succ, List.map_cons, List.map_nil, dv_add, dv_sub, dv_mul, dv_fdiv, dv_mod, dv_pow, a_int, s_int, d_int, c_le, c_lt, c_gt, c_ge, c_eq, c_ne, e_int, tr_bool, tr_int, tr_none, s_bool, b_bool, b_abs, ip_int, ip_sub, if_true, if_false, eq_self, Bool.not_true, Bool.not_false, Bool.false_eq_true, Bool.true_eq_false, le_0, le_1, le_2, le_3, le_4, ic_lst, endE, Option.map_some, Option.bind_some, i0, c1, c5, c6, fr_1, c7, w0, w1, m_list1, e9, c8]
theorem q11 {o : List Rat} {m : Nat} (ho : ∀ q ∈ o, od q) (lo : o.length = m) (h2 : 2 ≤ m) (hm : m ≤ 4){w : List Bool} (lw : w.length = m){p : Rat} (hp : sz 4 p) {s : Nat} (hs : s ≤ 100) : run P.C P.sub (callF P 18) u11 [s0, .d (frt o), .d (.int (s : Nat)), s3, .d (bls w), s5, .u, .d (fr (o.getD 0 0 - 1)), .d (fr p), s9, .d (fr (ew (o.getD 0 0) p ((s : Rat) / 2) (w.getD 0 false) (w.getD 1 false))), s11, .u, .u] = .ok (.nx, [s0, .d (frt o), .d (.int (s : Nat)), s3, .d (bls w), s5, .u, .d (fr (o.getD 0 0 - 1)), .d (fr p), s9, .d (fr (ew (o.getD 0 0) p ((s : Rat) / 2) (w.getD 0 false) (w.getD 1 false))), s11, .u, .u]) := by
  have o0 : od (o.getD 0 0) := ho _ (getD_mem (by omega))
  have i0 : idxD (frt o) (.int 0) = some (fr (o.getD 0 0)) := ix_frt o 0 (by omega)
  have w0 : idxD (bls w) (.int 0) = some (.bool (w.getD 0 false)) := ix_bls w 0 (by omega)
  have w1 : idxD (bls w) (.int 1) = some (.bool (w.getD 1 false)) := ix_bls w 1 (by omega)
  have c : callF P 18 21 [.d (fr (o.getD 0 0)), .d (fr p), .d (fr (s : Rat)), .d (.bool (w.getD 0 false)), .d (.bool (w.getD 1 false))] = _ := w_each 14 o0.1 hp (sz_mono (sz_s hs) (by omega)) _ _
  unfold u11
  simp only [it_l, it_t, rs_cons, rs_nil, r_asg, r_asg2, r_par2, r_aug, r_own, r_ownC, r_app, r_setP, r_ifs, r_for, r_fgt, r_ret, r_retD, r_retO, r_mv, r_ex, r_brk, r_cont, r_pass, x_v, x_fz, x_int, x_str, x_bl, x_non, x_neg, x_bin, x_cmp, x_chain, x_bop, x_not, x_ite, x_ix, x_sl, xo_no, xo_so, x_tup, x_lst, x_call, x_blt, x_isi, x_mth, x_ixP, x_lenP, x_spc, x_srtK, x_inP, t_inP, r_ownE, r_rem, r_ext, r_augP, r_parL, xs_nil, xs_cons, t_cmp, t_v, t_not, t_bop, t_ite, t_chain, t_isi, t_call, t_gq, t_bl, t_ix, t_bin, t_blt, i_of, n_range1, n_range2, i_zip, i_enum, i_enumz, xc_no, xc_so, fl_nil, fl_cons, bt_n, bt_2, bt_3, wipeE, keepS, backE, ok_bind, ofO_some, datO, List.getElem?_cons_zero, List.getElem?_cons_succ, List.set_cons_zero, List.set_cons_succ, List.map_cons, List.map_nil, dv_add, dv_sub, dv_mul, dv_fdiv, dv_mod, dv_pow, a_int, s_int, d_int, c_le, c_lt, c_gt, c_ge, c_eq, c_ne, e_int, tr_bool, tr_int, tr_none, s_bool, b_bool, b_abs, ip_int, ip_sub, if_true, if_false, eq_self, Bool.not_true, Bool.not_false, Bool.false_eq_true, Bool.true_eq_false, le_0, le_1, le_2, le_3, le_4, ic_lst, endE, Option.map_some, Option.bind_some, i0, w0, w1, fr_nat, c, eq_fr, decide_true]
end
def vals : D := .list [.tuple [.tuple [.int 2, .int 1], .tuple [.int 3, .int 2]], .tuple [.tuple [.int 2, .int 1]], .tuple [.tuple [.int 1, .int 1], .tuple [.int 2, .int 1]], .tuple [.tuple [.int 4, .int 2], .tuple [.int 3, .int 1]], .tuple [.tuple [.int 2, .int 0], .tuple [.int 3, .int 1]], .list [.tuple [.int 2, .int 1], .tuple [.int 3, .int 1]], .tuple [.tuple [.int 2, .int 1], .tuple [.bool true]], .none]
theorem v12 {s0 s1 s2 s3 s4 s5 s6 s7 s8 s9 s10 s11 s12 s13 : Slot} : run P.C P.sub (callF P 18) u12 [s0, s1, s2, s3, s4, s5, s6, s7, s8, s9, s10, s11, s12, s13] = .ok (.nx, [s0, s1, s2, s3, s4, s5, s6, s7, s8, s9, s10, .d vals, s12, s13]) := by
  kernel_rfl
theorem v13 {s0 s1 s2 s3 s4 s5 s6 s7 s8 s9 s10 s13 : Slot} : run P.C P.sub (callF P 18) u13 [s0, s1, s2, s3, s4, s5, s6, s7, s8, s9, s10, .d vals, .u, s13] = .ok (.rt (.d (.bool true)), [s0, s1, s2, s3, s4, s5, s6, s7, s8, s9, s10, .d vals, .u, s13]) := by
  kernel_rfl
theorem w_staked {row : List Int} (hr : row ≠ []) (hs : row.length < 1000000) (n : Nat) {o : List Rat} {m : Nat} (ho : ∀ q ∈ o, od q) (lo : o.length = m) (h2 : 2 ≤ m) (hm : m ≤ 4) {s : Nat} (hb : s ≤ 100) : ∃ n', callF P 19 32 [.m (boxM row n), .d (frt o), .d (.int (s : Nat))] = .ok (.d (.bool true), some (boxM row n')) := by
  obtain ⟨w, lw, h1⟩ := q1 hr hs n m hm
  obtain ⟨p, hp, h8⟩ := q8 hr hs (n + m)
  refine ⟨n + m + 1, ?_⟩
  rw [call_eq (k := 18) (F := ⟨"_law_staked", 3, ["box", "odds", "stake", "many", "won", "doubles", "k", "ratio", "part", "half", "back", "values", "value", "j"], true, none, b__law_staked⟩) rfl ⟨rfl, rfl⟩]
  show (runs P.C P.sub (callF P 18) b__law_staked [.m true (boxM row n), .d (frt o), .d (.int (s : Nat)), .u, .u, .u, .u, .u, .u, .u, .u, .u, .u, .u]).bind _ = _
  rw [staked_is, rs_step (q0 ho lo h2 hm), rs_step h1, rs_step q2, rs_step q3, rs_step (q4 ho lo h2 hm lw), rs_step (q5 ho lo h2 hm lw), rs_step (q6 ho lo h2 hm), rs_step (q7 ho lo h2 hm), rs_step h8, rs_step (q9 s hb), rs_step (q10 ho lo h2 hm lw hp hb), rs_step (q11 ho lo h2 hm lw hp hb), rs_step v12, rs_end v13]
  rfl
end K28
namespace K28
open PySem N
theorem p0 {X : D} {M : Mu} {s1 s2 s3 s4 s5 s6 s7 s8 s9 s10 s11 s12 s13 s14 s15 s16 s17 s18 s19 s20 s21 s22 s23 s24 s25 s26 s27 : Slot} (b : callF P 19 23 [.d X] = .ok (.m M, none)) : run P.C P.sub (callF P 19) t0 [.d X, s1, s2, s3, s4, s5, s6, s7, s8, s9, s10, s11, s12, s13, s14, s15, s16, s17, s18, s19, s20, s21, s22, s23, s24, s25, s26, s27] = .ok (.nx, [.d X, .m false M, s2, s3, s4, s5, s6, s7, s8, s9, s10, s11, s12, s13, s14, s15, s16, s17, s18, s19, s20, s21, s22, s23, s24, s25, s26, s27]) := by
  unfold t0
  simp only [it_l, it_t, rs_cons, rs_nil, r_asg, r_asg2, r_par2, r_aug, r_own, r_ownC, r_app, r_setP, r_ifs, r_for, r_fgt, r_ret, r_retD, r_retO, r_mv, r_ex, r_brk, r_cont, r_pass, x_v, x_fz, x_int, x_str, x_bl, x_non, x_neg, x_bin, x_cmp, x_chain, x_bop, x_not, x_ite, x_ix, x_sl, xo_no, xo_so, x_tup, x_lst, x_call, x_blt, x_isi, x_mth, x_ixP, x_lenP, x_spc, x_srtK, x_inP, t_inP, r_ownE, r_rem, r_ext, r_augP, r_parL, xs_nil, xs_cons, t_cmp, t_v, t_not, t_bop, t_ite, t_chain, t_isi, t_call, t_gq, t_bl, t_ix, t_bin, t_blt, i_of, n_range1, n_range2, i_zip, i_enum, i_enumz, xc_no, xc_so, fl_nil, fl_cons, bt_n, bt_2, bt_3, wipeE, keepS, backE, ok_bind, ofO_some, datO, List.getElem?_cons_zero, List.getElem?_cons_succ, List.set_cons_zero, List.set_cons_succ, List.map_cons, List.map_nil, dv_add, dv_sub, dv_mul, dv_fdiv, dv_mod, dv_pow, a_int, s_int, d_int, c_le, c_lt, c_gt, c_ge, c_eq, c_ne, e_int, tr_bool, tr_int, tr_none, s_bool, b_bool, b_abs, ip_int, ip_sub, if_true, if_false, eq_self, Bool.not_true, Bool.not_false, Bool.false_eq_true, Bool.true_eq_false, le_0, le_1, le_2, le_3, le_4, ic_lst, endE, Option.map_some, Option.bind_some, b]
theorem ans (ns : List Int) (h : ns.length ≤ 63) : callF P 20 33 [.d (.list (ns.map .int))] = .ok (.d (.bool true), none) := by
  have hs := rowOf_len h
  have hr := rowOf_ne ns
  have b : callF P 19 23 [.d (.list (ns.map .int))] = _ := box_ok (P := P) (d := 22) (f := 23) (k := 17) rfl rfl ns h
  generalize rowOf ns = row at hs hr b
  have g1 := drawn_rng row 0 (m := 3) (by decide)
  obtain ⟨m, em⟩ : ∃ m : Nat, 2 + drawn row 0 3 = (m : Nat) := ⟨_, (Int.toNat_of_nonneg (by omega)).symm⟩
  have m2 : 2 ≤ m := by omega
  have m4 : m ≤ 4 := by omega
  have m0 : 0 < m := by omega
  obtain ⟨n4, bs, ob, h4⟩ := p4 hr hs (0 + 1) m m2 m4
  have ho : ∀ q ∈ bs.getD 0 [], od q := ob.all _ (bk_mem ob.ne)
  have lo : (bs.getD 0 []).length = m := ob.len _ (bk_mem ob.ne)
  have g2 := drawn_rng row n4 (m := 100) (by decide)
  obtain ⟨s, es⟩ : ∃ s : Nat, 1 + drawn row n4 100 = (s : Nat) := ⟨_, (Int.toNat_of_nonneg (by omega)).symm⟩
  have s1 : 0 < s := by omega
  have sh : s ≤ 100 := by omega
  obtain ⟨dn, ld, hd, h22⟩ := p22 hr hs (n4 + 1) m m4
  have lz : ∀ q ∈ lft (bs.getD 0 []) dn m, sz 37 q := fun q hq => by
    obtain ⟨j, hj, rfl⟩ := List.mem_map.mp hq
    have hj := List.mem_range.mp hj
    have q1 := (ho _ (getD_mem (r := bs.getD 0 []) (j := j) (by omega))).1
    have q2 := hd _ (getD_mem (r := dn) (j := j) (by omega))
    have q3 : sz 25 (rsum dn) := sz_mono (sz_rsum hd) (by omega)
    exact sz_sub (sz_mul q1 q2) q3
  obtain ⟨n', hst⟩ := w_staked hr hs (n4 + 1 + 2 * m) ho lo m2 m4 sh
  rw [call_eq (k := 19) (F := ⟨"law", 1, ["script", "box", "many", "books", "k", "odds", "whole", "fair", "told", "due", "best", "total", "stake", "drawn", "paid", "left", "worst", "product", "one", "row", "j", "rows", "below", "stakes", "back", "book", "number", "other"], false, none, b_law⟩) rfl ⟨rfl, rfl⟩]
  show (runs P.C P.sub (callF P 19) b_law [.d (.list (ns.map .int)), .u, .u, .u, .u, .u, .u, .u, .u, .u, .u, .u, .u, .u, .u, .u, .u, .u, .u, .u, .u, .u, .u, .u, .u, .u, .u, .u]).bind _ = _
  rw [law_is, rs_step (p0 b), rs_step (p1 hr hs 0), em, rs_step p2, rs_step p3, rs_step h4, rs_step (p5 ob.ne), rs_step (p6 ho lo m0 m4), rs_step (p7 ho lo m0 m4), rs_step (p8 ho lo m0 m4), rs_step (p9 ho lo m0 m4 m2), rs_step (p10 ho lo m0 m4), rs_step p11, rs_step p12, rs_step (p13 ob), rs_step (p14 ob), rs_step (p15 ob), rs_step (p16 (bst_od ob) bst_len m0 m4), rs_step (p17 hr hs n4), es, rs_step (p18 ob s sh s1), rs_step (p19 ob s sh s1), rs_step (p20 ob s sh s1), rs_step p21, rs_step h22, rs_step (p23 ho lo m0 m4 ld hd), rs_step (p24 ho lo m0 m4 ld hd), rs_step (p25 lft_len m0 m4 lz), rs_step (p26 ho lo m0 m4 ld hd), rs_step p27, rs_step p28, rs_step (p29 ho lo m0 m4), rs_step (p30 ho lo m0 m4), rs_step (p31 ho lo m0 m4)]
  unfold t32
  simp only [it_l, it_t, rs_cons, rs_nil, r_asg, r_asg2, r_par2, r_aug, r_own, r_ownC, r_app, r_setP, r_ifs, r_for, r_fgt, r_ret, r_retD, r_retO, r_mv, r_ex, r_brk, r_cont, r_pass, x_v, x_fz, x_int, x_str, x_bl, x_non, x_neg, x_bin, x_cmp, x_chain, x_bop, x_not, x_ite, x_ix, x_sl, xo_no, xo_so, x_tup, x_lst, x_call, x_blt, x_isi, x_mth, x_ixP, x_lenP, x_spc, x_srtK, x_inP, t_inP, r_ownE, r_rem, r_ext, r_augP, r_parL, xs_nil, xs_cons, t_cmp, t_v, t_not, t_bop, t_ite, t_chain, t_isi, t_call, t_gq, t_bl, t_ix, t_bin, t_blt, i_of, n_range1, n_range2, i_zip, i_enum, i_enumz, xc_no, xc_so, fl_nil, fl_cons, bt_n, bt_2, bt_3, wipeE, keepS, backE, ok_bind, ofO_some, datO, List.getElem?_cons_zero, List.getElem?_cons_succ, List.set_cons_zero, List.set_cons_succ, List.map_cons, List.map_nil, dv_add, dv_sub, dv_mul, dv_fdiv, dv_mod, dv_pow, a_int, s_int, d_int, c_le, c_lt, c_gt, c_ge, c_eq, c_ne, e_int, tr_bool, tr_int, tr_none, s_bool, b_bool, b_abs, ip_int, ip_sub, if_true, if_false, eq_self, Bool.not_true, Bool.not_false, Bool.false_eq_true, Bool.true_eq_false, le_0, le_1, le_2, le_3, le_4, ic_lst, endE, Option.map_some, Option.bind_some, x_callO, ne_eq, Int.reduceEq, not_false_eq_true, hst]
end K28
theorem PySem.Challenge.cw_leaguestold_k28_odds_of_bookmakers_holds : PySem.Challenge.rw_leaguestold_k28_odds_of_bookmakers.Holds :=
  k28_end K28.ans
